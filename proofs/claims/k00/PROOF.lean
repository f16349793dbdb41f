import PyProof.Rows.All
import PySem.PyData
import PyProof.P3Statements
import PyProof.EqLayable
import Wide.All
import OpenK.AllK
import Wide.FinOn
import PyProof.EqAt
import PyProof.EqKinds
import PyProof.TupleCall
import HandS.Base
import HandS.Call
import HandS.List
import HandS.Comp
import HandS.Ends
import HandS.Dict
import HandS.Iter
import HandS.Exc
import HandS.ExcOwn
import HandS.ExcInit
import HandS.ExcField
import HandS.TryMany
import HandS.ExcCtx
import HandS.Hot
import HandS.HotCalls
import HandS.ExcInitHot
import HandS.HeadWalk
import HandS.Words
import HandS.WordsExc
import HandS.IsInst
import HandS.TupAny
import HandS.TupLe
import HandS.WordsDict
import HandS.Wide
import HandS.Deep
import PyProof.FactsAll.dict_1
import PyProof.FactsAll.dict_2
import PyProof.FactsAll.subtypes
import PyProof.NeKinds
import HandS.Flow
import HandS.CallLocal
import HandS.Style
import HandS.HeadHook1
import KE.KStateDown
import HandS.Head0
import HandS.Head1
import HandS.Head2
import HandS.HeadEnd
import PySem.Challenge.RW_fivetimes_k00_numbers
set_option Elab.async false
set_option linter.all false
set_option maxRecDepth 100000
set_option maxHeartbeats 2000000
/-! EvA: a small language of values, and its evaluator: plain Lean, no machine in it. -/
namespace Ev
open PySem

/-- values: what cannot change stands by itself; what can change by its place in the memory -/
inductive D where
  | non | bl (b : Bool) | int (i : Int) | str (s : Str) | tup (xs : List D) | obj (a : Nat) | fn (i : Nat)
  deriving Inhabited

abbrev Ky := Sum Int Str
/-- what stands in the memory: a list, a list that is read alone, a dict, a dict that has been walked (read alone from then on) -/
inductive Ob where
  | lst (xs : List D) | fro (xs : List D) | dct (kvs : List (Ky × D)) | fdc (kvs : List (Ky × D))
  deriving Inhabited
abbrev Mem := List Ob

/-- how an evaluation ends -/
inductive Rs (α : Type) where
  | ok (a : α) (m : Mem) | exc (c : Nat) (fs : List D) (m : Mem) | stuck
def Rs.bind {α β : Type} : Rs α → (α → Mem → Rs β) → Rs β
  | .ok a m, f => f a m
  | .exc c fs m, _ => .exc c fs m
  | .stuck, _ => .stuck
@[simp] theorem Rs.bind_ok {α β : Type} (a : α) (m : Mem) (f : α → Mem → Rs β) : (Rs.ok a m).bind f = f a m := rfl
@[simp] theorem Rs.bind_exc {α β : Type} (c : Nat) (fs : List D) (m : Mem) (f : α → Mem → Rs β) : (Rs.exc c fs m).bind f = .exc c fs m := rfl
@[simp] theorem Rs.bind_stuck {α β : Type} (f : α → Mem → Rs β) : (Rs.stuck).bind f = .stuck := rfl

abbrev Lc := List (Option D)

def mapO {α β : Type} (f : α → Option β) : List α → Option (List β)
  | [] => some []
  | x :: xs => match f x with
    | some y => (match mapO f xs with
      | some ys => some (y :: ys)
      | none => none)
    | none => none

/-! ### operations by value -/
inductive Op2 where
  | add | sub | mul | fdiv | mod | pow
  deriving DecidableEq
inductive Cm where
  | eq | ne | lt | le | gt | ge | is | isnot | inn | notin
  deriving DecidableEq

/-- the model's line for lists and texts -/
def line : Nat := 16777216
/-- products: one factor below 2^64, or both of few bits -/
def mulOk (a b : Int) : Bool := (decide (a.natAbs < 2 ^ 64) || decide (b.natAbs < 2 ^ 64)) || (decide (a.natAbs.log2 < 60000) && decide (b.natAbs.log2 < 60000))

def op2 (o : Op2) (x y : D) (m : Mem) : Rs D :=
  match x, y with
  | .int a, .int b => (match o with
    | .add => .ok (.int (a + b)) m
    | .sub => .ok (.int (a - b)) m
    | .mul => if mulOk a b = true then .ok (.int (a * b)) m else .stuck
    | .fdiv => if 0 < b ∧ b.natAbs.log2 < 9000 then .ok (.int (a / b)) m else .stuck
    | .mod => if 0 < b then .ok (.int (a % b)) m else .stuck
    | .pow => if 0 ≤ b ∧ b ≤ 1000000 ∧ a.natAbs < 2 ^ 64 then .ok (.int (a ^ b.toNat)) m else .stuck)
  | .str a, .str b => (match o with
    | .add => if a.length + b.length ≤ line then .ok (.str (a ++ b)) m else .stuck
    | _ => .stuck)
  | _, _ => .stuck

/-- a value as data, to a depth -/
def toPy (m : Mem) : Nat → D → Option PyData
  | 0, _ => none
  | n + 1, d => match d with
    | .non => some .none
    | .bl b => some (.bool b)
    | .int i => some (.int i)
    | .str s => some (.str s)
    | .tup xs => (mapO (toPy m n) xs).map .tuple
    | .obj a => (match m[a]? with
      | some (.lst xs) => (mapO (toPy m n) xs).map .list
      | some (.fro xs) => (mapO (toPy m n) xs).map .list
      | _ => none)
    | .fn _ => none
/-- a dict beside an int -/
def dctInt (x y : D) (m : Mem) : Bool := match x, y with
  | .obj a, .int _ => (match m[a]? with
    | some (.dct _) => true
    | some (.fdc _) => true
    | _ => false)
  | _, _ => false
/-- == of data -/
def eqW (x y : D) (m : Mem) : Option Bool :=
  match toPy m 60 x, toPy m 60 y with
  | some a, some b => if SeqAt.shaped a = true ∧ SeqAt.shaped b = true then some (PyData.eqv a b) else none
  | _, _ => none

/-- ==, also of a dict beside an int -/
def eqV (x y : D) (m : Mem) : Option Bool := match dctInt x y m with
  | true => some false
  | false => eqW x y m

def kyOf : D → Option Ky
  | .int i => some (.inl i)
  | .str s => some (.inr s)
  | _ => none
/-- x in a dict, by its keys -/
def inDict (k : Ky) (kvs : List (Ky × D)) : Bool := kvs.any fun p => decide (p.1 = k)
/-- x in a list, by data -/
def inS (x y : D) (m : Mem) : Option Bool := match toPy m 60 x, toPy m 60 y with
  | some d, some (.list ds) => if SeqAt.shaped d = true ∧ SeqAt.shaped (.list ds) = true then some (ds.any fun z => PyData.eqv z d) else none
  | _, _ => none
/-- x in a dict, by its keys; x in a list -/
def inV (x y : D) (m : Mem) : Option Bool := match y with
  | .obj a => (match m[a]? with
    | some (.dct kvs) => (match kyOf x with
      | some k => some (inDict k kvs)
      | none => none)
    | some (.fdc kvs) => (match kyOf x with
      | some k => some (inDict k kvs)
      | none => none)
    | some (.lst _) => inS x y m
    | some (.fro _) => inS x y m
    | none => none)
  | _ => none

def ofB (b : Option Bool) (m : Mem) : Rs D := match b with
  | some b => .ok (.bl b) m
  | none => .stuck
def cmpV (c : Cm) (x y : D) (m : Mem) : Rs D :=
  match c with
  | .eq => ofB (eqV x y m) m
  | .ne => ofB ((eqV x y m).map (!·)) m
  | .lt => (match x, y with | .int a, .int b => .ok (.bl (decide (a < b))) m | _, _ => .stuck)
  | .le => (match x, y with | .int a, .int b => .ok (.bl (decide (a ≤ b))) m | _, _ => .stuck)
  | .gt => (match x, y with | .int a, .int b => .ok (.bl (decide (b < a))) m | _, _ => .stuck)
  | .ge => (match x, y with | .int a, .int b => .ok (.bl (decide (b ≤ a))) m | _, _ => .stuck)
  | .is => (match x, y with | .non, .non => .ok (.bl true) m | _, .non => .ok (.bl false) m | .bl a, .bl b => .ok (.bl (decide (a = b))) m | _, _ => .stuck)
  | .isnot => (match x, y with | .non, .non => .ok (.bl false) m | _, .non => .ok (.bl true) m | .bl a, .bl b => .ok (.bl (!decide (a = b))) m | _, _ => .stuck)
  | .inn => ofB (inV x y m) m
  | .notin => ofB ((inV x y m).map (!·)) m

/-- truth -/
def truth (x : D) (m : Mem) : Option Bool :=
  match x with
  | .non => some false
  | .bl b => some b
  | .int i => some (i != 0)
  | .str s => if s.length ≤ line then some ((s.length : Int) != 0) else none
  | .tup xs => some (!xs.isEmpty)
  | .obj a => (match m[a]? with
    | some (.lst xs) => some (!xs.isEmpty)
    | some (.fro xs) => some (!xs.isEmpty)
    | some (.dct kvs) => some (!kvs.isEmpty)
    | _ => none)
  | .fn _ => none

/-- a place in a sequence -/
def atIx (n : Nat) (i : Int) : Option Nat := if 0 ≤ i then (if i < n then some i.toNat else none) else if -(n : Int) ≤ i then some (i + n).toNat else none
def seqOf (x : D) (m : Mem) : Option (List D) := match x with
  | .tup xs => some xs
  | .obj a => (match m[a]? with
    | some (.lst xs) => some xs
    | some (.fro xs) => some xs
    | _ => none)
  | _ => none
def idxV (x i : D) (m : Mem) : Rs D :=
  match seqOf x m, i with
  | some xs, .int j => (match (atIx xs.length j).bind (xs[·]?) with
    | some d => .ok d m
    | none => .stuck)
  | _, _ => .stuck

inductive Ty where
  | int | bool | str | tuple | list | dict
  deriving DecidableEq
def tyIs (t : Ty) (x : D) (m : Mem) : Option Bool :=
  match x with
  | .non => some false
  | .bl _ => some (t == .int || t == .bool)
  | .int _ => some (t == .int)
  | .str _ => some (t == .str)
  | .tup _ => some (t == .tuple)
  | .obj a => (match m[a]? with
    | some (.lst _) => some (t == .list)
    | some (.fro _) => some (t == .list)
    | some (.dct _) => some (t == .dict)
    | some (.fdc _) => some (t == .dict)
    | none => none)
  | .fn _ => none
def tysIs (ts : List Ty) (x : D) (m : Mem) : Option Bool := match tyIs .int x m with
  | none => none
  | some _ => some (ts.any fun t => tyIs t x m == some true)

/-- built-in functions by value -/
inductive Blt where
  | len | abs | int | max2 | min2 | list | tuple | sum
  deriving DecidableEq
def intOf : D → Option Int
  | .int i => some i
  | _ => none
def allInt (xs : List D) : Option (List Int) := mapO intOf xs
def newLst (xs : List D) (m : Mem) : Rs D := .ok (.obj m.length) (m ++ [.lst xs])
def bltV (b : Blt) (xs : List D) (m : Mem) : Rs D :=
  match b, xs with
  | .abs, [.int i] => .ok (.int (if i < 0 then -i else i)) m
  | .int, [.int i] => .ok (.int i) m
  | .int, [.bl b] => .ok (.int (if b then 1 else 0)) m
  | .max2, [.int i, .int j] => .ok (.int (if j > i then j else i)) m
  | .min2, [.int i, .int j] => .ok (.int (if j < i then j else i)) m
  | .len, [.str s] => if s.length ≤ line then .ok (.int s.length) m else .stuck
  | .len, [.tup ys] => .ok (.int ys.length) m
  | .len, [.obj a] => (match m[a]? with
    | some (.lst ys) => .ok (.int ys.length) m
    | some (.fro ys) => .ok (.int ys.length) m
    | some (.dct kvs) => .ok (.int kvs.length) m
    | some (.fdc kvs) => .ok (.int kvs.length) m
    | none => .stuck)
  | .list, [x] => (match seqOf x m with
    | some ys => newLst ys m
    | none => .stuck)
  | .tuple, [.tup ys] => .ok (.tup ys) m
  | .tuple, [.obj a] => (match seqOf (.obj a) m with
    | some ys => .ok (.tup ys) m
    | none => .stuck)
  | .sum, [.obj a] => (match (seqOf (.obj a) m).bind allInt with
    | some ns => .ok (.int ns.sum) m
    | none => .stuck)
  | _, _ => .stuck

/-- methods by value -/
inductive Mth where
  | append | pop1
  deriving DecidableEq
def mthV (t : Mth) (x : D) (ys : List D) (m : Mem) : Rs D :=
  match x with
  | .obj a => (match m[a]?, t, ys with
    | some (.lst xs), .append, [y] => if xs.length < line then .ok .non (m.set a (.lst (xs ++ [y]))) else .stuck
    | some (.lst xs), .pop1, [.int i] => (match (atIx xs.length i) with
      | some k => (match xs[k]? with
        | some d => .ok d (m.set a (.lst (xs.eraseIdx k)))
        | none => .stuck)
      | none => .stuck)
    | _, _, _ => .stuck)
  | _ => .stuck
def isLst (x : D) (m : Mem) : Bool := match x with
  | .obj a => (match m[a]? with
    | some (.lst _) => true
    | _ => false)
  | _ => false
/-- a[i] = v -/
def putV (x i v : D) (m : Mem) : Option Mem :=
  match x, i with
  | .obj a, .int j => (match m[a]? with
    | some (.lst xs) => (match atIx xs.length j with
      | some k => some (m.set a (.lst (xs.set k v)))
      | none => none)
    | _ => none)
  | _, _ => none
/-- x[lo:hi] -/
def sIxD (n d : Nat) : Option Int → Nat
  | none => d
  | some v => if v < 0 then (v + (n : Int)).toNat else min v.toNat n
def cutD (xs : List D) (lo hi : Option Int) : List D := (xs.drop (sIxD xs.length 0 lo)).take (sIxD xs.length xs.length hi - sIxD xs.length 0 lo)
def slcV (x : D) (l h : Option Int) (m : Mem) : Rs D :=
  match x with
  | .tup xs => .ok (.tup (cutD xs l h)) m
  | .obj a => (match m[a]? with
    | some (.lst xs) => newLst (cutD xs l h) m
    | some (.fro xs) => newLst (cutD xs l h) m
    | _ => .stuck)
  | _ => .stuck

/-! ### the language -/
/-- targets -/
inductive Tg where
  | nm (i : Nat) | tup (ts : List Tg)
  deriving Inhabited
mutual
def stTg : Tg → D → Lc → Option Lc
  | .nm i, v, δ => if i < δ.length then some (δ.set i (some v)) else none
  | .tup ts, v, δ => match v with
    | .tup vs => stTgs ts vs δ
    | _ => none
def stTgs : List Tg → List D → Lc → Option Lc
  | [], [], δ => some δ
  | t :: ts, v :: vs, δ => match stTg t v δ with
    | some δ' => stTgs ts vs δ'
    | none => none
  | _, _, _ => none
end

mutual
inductive E where
  | var (i : Nat)
  | lit (d : D)
  | tup (es : List E) | lst (es : List E) | dct0
  | op2 (o : Op2) (a b : E) | neg (a : E) | not (a : E)
  | cmp (c : Cm) (a b : E) | chn (c c' : Cm) (a b e : E)
  | and (a b : E) | or (a b : E) | ife (c a b : E)
  | call (f : Nat) (as : List E)
  | callk (f : Nat) (ps : List Nat) (as : List E)
  | callv (f : E) (as : List E)
  | blt (b : Blt) (as : List E)
  | isi (ts : List Ty) (a : E)
  | idx (a i : E)
  | slc (a : E) (lo hi : Option E)
  | mth (t : Mth) (o : E) (as : List E)
  | cf (f : Nat)
  | comp (own : List Nat) (elt : E) (t : Tg) (it : It) (cond : Option E)
inductive It where
  | e (a : E) | r1 (a : E) | r2 (a b : E)
end
inductive S where
  | asg (t : Tg) (e : E)
  | put (a i e : E)
  | ex (e : E) | ret (e : E) | retN | pass | brk | cont
  | ife (c : E) (a b : List S)
  | wh (c : E) (b : List S)
  | for (t : Tg) (it : It) (b : List S)
  | rais (c : Nat) (es : List E)
  | tr (b : List S) (hs : List (Nat × Option Nat × List S))


/-! ### statements' ends -/
inductive Out where
  | next (δ : Lc) | ret (d : D) | brk (δ : Lc) | cont (δ : Lc)
inductive RS where
  | ok (o : Out) (m : Mem) | exc (c : Nat) (fs : List D) (δ : Lc) (m : Mem) | stuck
/-- behind a value -/
def RS.of (r : Rs α) (δ : Lc) (f : α → Mem → RS) : RS := match r with
  | .ok a m => f a m
  | .exc c fs m => .exc c fs δ m
  | .stuck => .stuck
/-- behind a statement -/
def RS.then (r : RS) (f : Lc → Mem → RS) : RS := match r with
  | .ok (.next δ) m => f δ m
  | .ok o m => .ok o m
  | .exc c fs δ m => .exc c fs δ m
  | .stuck => .stuck
@[simp] theorem RS.of_ok (a : α) (m : Mem) (δ : Lc) (f : α → Mem → RS) : RS.of (.ok a m) δ f = f a m := rfl
@[simp] theorem RS.of_exc (c : Nat) (fs : List D) (m : Mem) (δ : Lc) (f : α → Mem → RS) : RS.of (.exc c fs m) δ f = .exc c fs δ m := rfl
@[simp] theorem RS.of_stuck (δ : Lc) (f : α → Mem → RS) : RS.of .stuck δ f = .stuck := rfl
@[simp] theorem RS.then_next (δ : Lc) (m : Mem) (f : Lc → Mem → RS) : (RS.ok (.next δ) m).then f = f δ m := rfl
@[simp] theorem RS.then_ret (d : D) (m : Mem) (f : Lc → Mem → RS) : (RS.ok (.ret d) m).then f = .ok (.ret d) m := rfl
@[simp] theorem RS.then_brk (δ : Lc) (m : Mem) (f : Lc → Mem → RS) : (RS.ok (.brk δ) m).then f = .ok (.brk δ) m := rfl
@[simp] theorem RS.then_cont (δ : Lc) (m : Mem) (f : Lc → Mem → RS) : (RS.ok (.cont δ) m).then f = .ok (.cont δ) m := rfl
@[simp] theorem RS.then_exc (c : Nat) (fs : List D) (δ : Lc) (m : Mem) (f : Lc → Mem → RS) : (RS.exc c fs δ m).then f = .exc c fs δ m := rfl
@[simp] theorem RS.then_stuck (f : Lc → Mem → RS) : (RS.stuck).then f = .stuck := rfl

/-- what is walked: items that stand by themselves, or a list as it stands at each turn -/
inductive Wk where
  | con (xs : List D) | dyn (a : Nat)
def rng (lo hi : Int) : List D := (List.range (hi - lo).toNat).map fun (k : Nat) => D.int (lo + (k : Int))
def bnd (i : Int) : Bool := decide (-(2 ^ 62) ≤ i) && decide (i < 2 ^ 62)
def kyD : Ky → D
  | .inl i => .int i
  | .inr s => .str s
def walkOf (d : D) (m : Mem) : Rs Wk := match d with
  | .tup xs => .ok (.con xs) m
  | .obj a => (match m[a]? with
    | some (.lst _) => .ok (.dyn a) m
    | some (.fro xs) => .ok (.con xs) m
    | some (.dct kvs) => .ok (.con (kvs.map fun p => kyD p.1)) (m.set a (.fdc kvs))
    | some (.fdc kvs) => .ok (.con (kvs.map fun p => kyD p.1)) m
    | _ => .stuck)
  | _ => .stuck
def r1V (x : D) (m : Mem) : Rs Wk := match x with
  | .int j => if bnd j = true then .ok (.con (rng 0 j)) m else .stuck
  | _ => .stuck
def r2V (x y : D) (m : Mem) : Rs Wk := match x, y with
  | .int i, .int j => if bnd i = true ∧ bnd j = true then .ok (.con (rng i j)) m else .stuck
  | _, _ => .stuck
def nextD (a : Nat) (i : Nat) (m : Mem) : Option (Option D) := match m[a]? with
  | some (.lst xs) => some xs[i]?
  | _ => none

def whFuel : Nat := 1000000000000
/-- behind a turn's body -/
def turnF (r : RS) (k : Lc → Mem → RS) : RS := match r with
  | .ok (.next δ) m => k δ m
  | .ok (.cont δ) m => k δ m
  | .ok (.brk δ) m => .ok (.next δ) m
  | .ok (.ret d) m => .ok (.ret d) m
  | .exc c fs δ m => .exc c fs δ m
  | .stuck => .stuck
@[simp] theorem turnF_next (δ : Lc) (m : Mem) (k : Lc → Mem → RS) : turnF (.ok (.next δ) m) k = k δ m := rfl
@[simp] theorem turnF_cont (δ : Lc) (m : Mem) (k : Lc → Mem → RS) : turnF (.ok (.cont δ) m) k = k δ m := rfl
@[simp] theorem turnF_brk (δ : Lc) (m : Mem) (k : Lc → Mem → RS) : turnF (.ok (.brk δ) m) k = .ok (.next δ) m := rfl
@[simp] theorem turnF_ret (d : D) (m : Mem) (k : Lc → Mem → RS) : turnF (.ok (.ret d) m) k = .ok (.ret d) m := rfl
@[simp] theorem turnF_exc (c : Nat) (fs : List D) (δ : Lc) (m : Mem) (k : Lc → Mem → RS) : turnF (.exc c fs δ m) k = .exc c fs δ m := rfl
@[simp] theorem turnF_stuck (k : Lc → Mem → RS) : turnF .stuck k = .stuck := rfl
/-- a for's turns; b d δ m: the target's store, then the body -/
def forC (b : D → Lc → Mem → RS) : List D → Lc → Mem → RS
  | [], δ, m => .ok (.next δ) m
  | d :: ds, δ, m => turnF (b d δ m) fun δ' m' => forC b ds δ' m'
def forD (b : D → Lc → Mem → RS) (a : Nat) : Nat → Nat → Lc → Mem → RS
  | 0, _, _, _ => .stuck
  | n + 1, i, δ, m => match nextD a i m with
    | some none => .ok (.next δ) m
    | some (some d) => turnF (b d δ m) fun δ' m' => forD b a n (i + 1) δ' m'
    | none => .stuck
def whN (c : Lc → Mem → Rs Bool) (b : Lc → Mem → RS) : Nat → Lc → Mem → RS
  | 0, _, _ => .stuck
  | n + 1, δ, m => RS.of (c δ m) δ fun t m1 => match t with
    | false => .ok (.next δ) m1
    | true => turnF (b δ m1) fun δ' m' => whN c b n δ' m'
/-- a comprehension's turns; b d m: the item's value, or none where the test falls -/
def turnC (r : Rs (Option D)) (acc : List D) (k : List D → Mem → Rs (List D)) : Rs (List D) := match r with
  | .ok (some v) m => if acc.length < line then k (acc ++ [v]) m else .stuck
  | .ok none m => k acc m
  | _ => .stuck
def compC (b : D → Mem → Rs (Option D)) : List D → List D → Mem → Rs (List D)
  | [], acc, m => .ok acc m
  | d :: ds, acc, m => turnC (b d m) acc fun acc' m' => compC b ds acc' m'
def compD (b : D → Mem → Rs (Option D)) (a : Nat) : Nat → Nat → List D → Mem → Rs (List D)
  | 0, _, _, _ => .stuck
  | n + 1, i, acc, m => match nextD a i m with
    | some none => .ok acc m
    | some (some d) => turnC (b d m) acc fun acc' m' => compD b a n (i + 1) acc' m'
    | none => .stuck
def walkC (b : D → Mem → Rs (Option D)) (w : Wk) (m : Mem) : Rs (List D) := match w with
  | .con xs => compC b xs [] m
  | .dyn a => compD b a (line + 2) 0 [] m
def walkF (b : D → Lc → Mem → RS) (w : Wk) (δ : Lc) (m : Mem) : RS := match w with
  | .con xs => forC b xs δ m
  | .dyn a => forD b a (line + 2) 0 δ m
/-- a target's store, then .. -/
def stThen {α : Type} (o : Option Lc) (s : α) (k : Lc → α) : α := match o with
  | some δ => k δ
  | none => s
/-- the test, then the item's value -/
def iteC (r : Rs Bool) (e : Mem → Rs D) : Rs (Option D) := r.bind fun t m1 => match t with
  | true => (e m1).bind fun v m2 => .ok (some v) m2
  | false => .ok none m1

def wipeD (δ : Lc) : List Nat → Lc
  | [] => δ
  | v :: vs => (wipeD δ vs).set v none
def tru (d : D) (m : Mem) : Rs Bool := match truth d m with
  | some b => .ok b m
  | none => .stuck
def pick (ps : List Nat) (xs : List D) : Option (List D) := if ps.length = xs.length then mapO (fun p => xs[p]?) ps else none
/-- the calls of the text's own defs, which exceptions a clause takes -/
structure Cfg where
  call : Nat → List D → Mem → Rs D
  sub : Nat → Nat → Option Bool
  fld : Nat → Option Nat
/-- the caught error: its class, its field -/
abbrev Cur := Option (Nat × List D)
def cfV (g : Cfg) (cur : Cur) (f : Nat) : Option D := match cur with
  | some (c, [d]) => if g.fld c = some f then some d else none
  | _ => none
def unset (i : Option Nat) (δ : Lc) : Lc := match i with
  | some i => δ.set i none
  | none => δ

def okSl (i : Option Nat) (δ : Lc) : Bool := match i with
  | some i => decide (i < δ.length)
  | none => true
/-- a clause's suite ends: its name is gone; it lets nothing out -/
def endH (i : Option Nat) (r : RS) : RS := match r with
  | .ok (.next δ) m => .ok (.next (unset i δ)) m
  | .ok (.brk δ) m => .ok (.brk (unset i δ)) m
  | .ok (.cont δ) m => .ok (.cont (unset i δ)) m
  | .ok (.ret d) m => .ok (.ret d) m
  | _ => .stuck
mutual
def evE (g : Cfg) (cur : Cur) (δ : Lc) : E → Mem → Rs D
  | .var i, m => (match δ[i]? with
    | some (some d) => .ok d m
    | _ => .stuck)
  | .lit d, m => .ok d m
  | .tup es, m => (evEs g cur δ es m).bind fun xs m1 => .ok (.tup xs) m1
  | .lst es, m => (evEs g cur δ es m).bind fun xs m1 => newLst xs m1
  | .dct0, m => .ok (.obj m.length) (m ++ [.dct []])
  | .op2 o a b, m => (evE g cur δ a m).bind fun x m1 => (evE g cur δ b m1).bind fun y m2 => op2 o x y m2
  | .neg a, m => (evE g cur δ a m).bind fun x m1 => (match x with
    | .int i => .ok (.int (-i)) m1
    | _ => .stuck)
  | .not a, m => (evE g cur δ a m).bind fun x m1 => (tru x m1).bind fun t m2 => .ok (.bl (!t)) m2
  | .cmp c a b, m => (evE g cur δ a m).bind fun x m1 => (evE g cur δ b m1).bind fun y m2 => cmpV c x y m2
  | .chn c c' a b e, m => (evE g cur δ a m).bind fun x m1 => (evE g cur δ b m1).bind fun y m2 => (cmpV c x y m2).bind fun z m3 => (match z with
    | .bl true => (evE g cur δ e m3).bind fun u m4 => cmpV c' y u m4
    | .bl false => .ok (.bl false) m3
    | _ => .stuck)
  | .and a b, m => (evE g cur δ a m).bind fun x m1 => (tru x m1).bind fun t m2 => (match t with
    | true => evE g cur δ b m2
    | false => .ok x m2)
  | .or a b, m => (evE g cur δ a m).bind fun x m1 => (tru x m1).bind fun t m2 => (match t with
    | true => .ok x m2
    | false => evE g cur δ b m2)
  | .ife c a b, m => (evE g cur δ c m).bind fun x m1 => (tru x m1).bind fun t m2 => (match t with
    | true => evE g cur δ a m2
    | false => evE g cur δ b m2)
  | .call f as, m => (evEs g cur δ as m).bind fun xs m1 => g.call f xs m1
  | .callk f ps as, m => (evEs g cur δ as m).bind fun xs m1 => (match pick ps xs with
    | some ys => g.call f ys m1
    | none => .stuck)
  | .callv f as, m => (evE g cur δ f m).bind fun x m1 => (match x with
    | .fn i => (evEs g cur δ as m1).bind fun xs m2 => g.call i xs m2
    | _ => .stuck)
  | .blt b as, m => (evEs g cur δ as m).bind fun xs m1 => bltV b xs m1
  | .isi ts a, m => (evE g cur δ a m).bind fun x m1 => ofB (tysIs ts x m1) m1
  | .idx a i, m => (evE g cur δ a m).bind fun x m1 => (evE g cur δ i m1).bind fun y m2 => idxV x y m2
  | .slc a lo hi, m => (evE g cur δ a m).bind fun x m1 => (evO g cur δ lo m1).bind fun l m2 => (evO g cur δ hi m2).bind fun h m3 => slcV x l h m3
  | .mth t o as, m => (evE g cur δ o m).bind fun x m1 => (match isLst x m1 with
    | true => (evEs g cur δ as m1).bind fun xs m2 => mthV t x xs m2
    | false => .stuck)
  | .cf f, m => (match cfV g cur f with
    | some d => .ok d m
    | none => .stuck)
  | .comp own elt t it cond, m => (evIt g cur δ it m).bind fun w m1 =>
      (walkC (fun d m => stThen (stTg t d (wipeD δ own)) .stuck fun δ' => iteC (evC g cur δ' cond m) (fun m1 => evE g cur δ' elt m1)) w m1).bind fun ys m2 => newLst ys m2
def evEs (g : Cfg) (cur : Cur) (δ : Lc) : List E → Mem → Rs (List D)
  | [], m => .ok [] m
  | e :: es, m => (evE g cur δ e m).bind fun x m1 => (evEs g cur δ es m1).bind fun xs m2 => .ok (x :: xs) m2
def evO (g : Cfg) (cur : Cur) (δ : Lc) : Option E → Mem → Rs (Option Int)
  | none, m => .ok none m
  | some e, m => (evE g cur δ e m).bind fun x m1 => (match x with
    | .int i => .ok (some i) m1
    | _ => .stuck)
def evC (g : Cfg) (cur : Cur) (δ : Lc) : Option E → Mem → Rs Bool
  | none, m => .ok true m
  | some e, m => (evE g cur δ e m).bind fun x m1 => tru x m1
def evIt (g : Cfg) (cur : Cur) (δ : Lc) : It → Mem → Rs Wk
  | .e a, m => (evE g cur δ a m).bind fun x m1 => walkOf x m1
  | .r1 a, m => (evE g cur δ a m).bind fun x m1 => r1V x m1
  | .r2 a b, m => (evE g cur δ a m).bind fun x m1 => (evE g cur δ b m1).bind fun y m2 => r2V x y m2
end

def evT (g : Cfg) (cur : Cur) (δ : Lc) (e : E) (m : Mem) : Rs Bool := (evE g cur δ e m).bind fun x m1 => tru x m1
mutual
def evS (g : Cfg) (cur : Cur) : S → Lc → Mem → RS
  | .asg t e, δ, m => RS.of (evE g cur δ e m) δ fun x m1 => stThen (stTg t x δ) .stuck fun δ' => .ok (.next δ') m1
  | .put a i e, δ, m => RS.of (evE g cur δ e m) δ fun v m1 => RS.of (evE g cur δ a m1) δ fun x m2 => RS.of (evE g cur δ i m2) δ fun y m3 => (match putV x y v m3 with
    | some m4 => .ok (.next δ) m4
    | none => .stuck)
  | .ex e, δ, m => RS.of (evE g cur δ e m) δ fun _ m1 => .ok (.next δ) m1
  | .ret e, δ, m => RS.of (evE g cur δ e m) δ fun x m1 => .ok (.ret x) m1
  | .retN, _, m => .ok (.ret .non) m
  | .pass, δ, m => .ok (.next δ) m
  | .brk, δ, m => .ok (.brk δ) m
  | .cont, δ, m => .ok (.cont δ) m
  | .ife c a b, δ, m => RS.of (evT g cur δ c m) δ fun t m1 => (match t with
    | true => evSs g cur a δ m1
    | false => evSs g cur b δ m1)
  | .wh c b, δ, m => whN (fun δ m => evT g cur δ c m) (fun δ m => evSs g cur b δ m) whFuel δ m
  | .for t it b, δ, m => RS.of (evIt g cur δ it m) δ fun w m1 => walkF (fun d δ m => stThen (stTg t d δ) .stuck fun δ' => evSs g cur b δ' m) w δ m1
  | .rais c es, δ, m => RS.of (evEs g cur δ es m) δ fun xs m1 => .exc c xs δ m1
  | .tr b hs, δ, m => (match evSs g cur b δ m with
    | .exc c fs δ' m' => evHs g c fs hs δ' m'
    | r => r)
def evSs (g : Cfg) (cur : Cur) : List S → Lc → Mem → RS
  | [], δ, m => .ok (.next δ) m
  | s :: ss, δ, m => (evS g cur s δ m).then fun δ' m' => evSs g cur ss δ' m'
def evHs (g : Cfg) (c : Nat) (fs : List D) : List (Nat × Option Nat × List S) → Lc → Mem → RS
  | [], δ, m => .exc c fs δ m
  | (h, i, b) :: hs, δ, m => (match g.sub c h with
    | some true => (match okSl i δ with
      | true => endH i (evSs g (some (c, fs)) b (unset i δ) m)
      | false => .stuck)
    | some false => evHs g c fs hs δ m
    | none => .stuck)
end

/-- a def: how many arguments, how many slots, its body -/
structure Fd where
  np : Nat
  ns : Nat
  body : List S
structure Prog where
  fns : List Fd
  sub : Nat → Nat → Option Bool
  fld : Nat → Option Nat
def start (fd : Fd) (xs : List D) : Lc := xs.map some ++ List.replicate (fd.ns - xs.length) none
def RS.toRet : RS → Rs D
  | .ok (.next _) m => .ok .non m
  | .ok (.ret d) m => .ok d m
  | .exc c fs _ m => .exc c fs m
  | _ => .stuck
/-- a call, k levels deep at most -/
def run (P : Prog) : Nat → Nat → List D → Mem → Rs D
  | 0, _, _, _ => .stuck
  | k + 1, f, xs, m => match P.fns[f]? with
    | some fd => if xs.length = fd.np then (evSs ⟨run P k, P.sub, P.fld⟩ none fd.body (start fd xs) m).toRet else .stuck
    | none => .stuck
end Ev
set_option linter.all false
set_option maxRecDepth 100000
set_option maxHeartbeats 4000000
/-! EvM1: walks whose end is met while an exception is handled, or not. -/
namespace EvM
open PySem PySem.Spec PyProof.Rows L2 HotX

section
variable {prog : Program} {w : World} {A : Around} {E : Value → Shared → Prop} {s : Shared}
/-- the tail of every iterator's end: StopIteration is made and raised in the shade of x1 -/
theorem stop_hot {x1 : Addr} {Q : Fin → Shared → Prop} (hot : HotAt A x1 s.heap)
    (hE : ∀ a h', (∀ b o, s.heap.get? b = some o → h'.get? b = some o) → (∃ o, h'.get? a = some o ∧ o.cls = .type "StopIteration") → E (.ref a) { s with heap := h' }) :
    wpAny (model prog w) A (newExc (.type "StopIteration") [] >>= fun e => raiseNew e : Sem Fin) Q E s := by
  obtain ⟨hh, o1, vs1, h1, d1, c1⟩ := hot
  refine wpAny_bind ?_
  simp only [newExc, newTuple]
  refine wpAny_bind (wpAny_newObj_type ?_ (by size_fits))
  refine wpAny_bind (m := firstArgMember _ _) (wpAny_of_eq (a := Value.none) (by first | rfl | (simp only [firstArgMember]; rfl)) ?_)
  refine wpAny_newObj_type ?_ (by size_fits)
  refine raiseNew_hot ⟨hh, o1, vs1, Heap.get?_push_of_some _ (Heap.get?_push_of_some _ h1), d1, c1⟩ (Nat.ne_of_lt (Heap.lt_size (Heap.get?_push_of_some _ h1))) (Heap.get?_push_size _ rfl) rfl (by first | (simp; done) | (simp; omega)) ?_
  refine hE _ _ (fun b o e => ?_) ⟨_, Heap.get?_update_self _ (Heap.get?_push_size _ rfl) rfl, rfl⟩
  rw [Heap.get?_update_other _ _ (Nat.ne_of_gt (Heap.lt_size (Heap.get?_push_of_some _ e)))]
  exact Heap.get?_push_of_some _ (Heap.get?_push_of_some _ e)
/-- StopIteration, looked at where next was asked -/
theorem stop_seen {a : Addr} {h' : Heap} {Q : Option Value → Shared → Prop} (ho : ∃ o, h'.get? a = some o ∧ o.cls = .type "StopIteration") (hQ : Q none { s with heap := h' }) :
    wpAny (model prog w) A (do if ← isInstance (.ref a) (.type "StopIteration") then pure none else throw (.ref a)) Q E { s with heap := h' } := by
  refine wpAny_bind (wpAny_isInstance (T := "StopIteration") (b := true) ho isSubtype_stop ?_)
  exact wpAny_pure hQ
theorem list_end_hot {it l x1 : Addr} {i : Nat} {items} {Q : Option Value → Shared → Prop} (hot : HotAt A x1 s.heap) (hn : x1 ≠ it)
    (hit : s.heap.IsListIter it l i) (hl : s.heap.IsList l items) (hx : items[i]? = none)
    (hQ : ∀ h', Heap.ExtBut it s.heap h' → Q none { s with heap := h' }) : wpAny (model prog w) A (pyNext (.ref it)) Q E s := by
  obtain ⟨o, ho, hc, hd⟩ := id hit
  obtain ⟨ol, hol, _, nl, hdl⟩ := hl
  obtain ⟨hh, o1, vs1, h1, d1, c1⟩ := hot
  unfold pyNext
  refine wpAny_bind (wpAny_attempt (wpAny_callSpecial?_slot (name := Str.ofString "__next__") hit.typeIs slot_listiter_next
    (wpAny_call_entry slot_listiter_next hit.typeIs entry_listiter_next ?_ (args_listiter_next _))))
  show wpAny _ _ (field (.ref it) 0 >>= _) _ _ s
  refine wpAny_bind (wpAny_field ho hd (x := .ref l) rfl ?_)
  show wpAny _ _ (if (Value.ref l == Value.none) = true then _ else _) _ _ s
  rw [if_neg (show ¬ ((Value.ref l == Value.none) = true) from Bool.false_ne_true)]
  show wpAny _ _ (field (.ref it) 1 >>= _) _ _ s
  refine wpAny_bind (wpAny_field ho hd (x := .int i 0) rfl ?_)
  show wpAny _ _ (seqItems? (.ref l) >>= _) _ _ s
  refine wpAny_bind (wpAny_seqItems hol hdl ?_)
  simp only [Int.toNat_natCast, hx]
  refine wpAny_bind (wpAny_rule (wpAny_bind (wpAny_setField ho hd (by simp) ?_)))
  have sb : Heap.SameBut it s.heap (s.heap.update it (Obj.mapFields (·.setIfInBounds 0 Value.none))) := Heap.SameBut.update ..
  refine stop_hot (A := A.in1) (x1 := x1) (s := { s with heap := s.heap.update it (Obj.mapFields (·.setIfInBounds 0 Value.none)) }) ⟨hh, o1, vs1, (sb.2 x1 hn).trans h1, d1, c1⟩ fun a h' k e => ?_
  refine stop_seen e (hQ h' fun b ob hb e => k b ob ((sb.2 b hb).trans e))
theorem tuple_end_hot {it t x1 : Addr} {i : Nat} {items} {Q : Option Value → Shared → Prop} (hot : HotAt A x1 s.heap) (hn : x1 ≠ it)
    (hit : s.heap.IsTupleIter it t i) (ht : s.heap.IsTuple t items) (hx : items[i]? = none)
    (hQ : ∀ h', Heap.ExtBut it s.heap h' → Q none { s with heap := h' }) : wpAny (model prog w) A (pyNext (.ref it)) Q E s := by
  obtain ⟨o, ho, hc, hd⟩ := id hit
  obtain ⟨ol, hol, _, nl, hdl⟩ := ht
  obtain ⟨hh, o1, vs1, h1, d1, c1⟩ := hot
  unfold pyNext
  refine wpAny_bind (wpAny_attempt (wpAny_callSpecial?_slot (name := Str.ofString "__next__") hit.typeIs F.slot_tuple_iterator_next
    (wpAny_call_entry F.slot_tuple_iterator_next hit.typeIs F.entry_tuple_iterator_next ?_ (F.args_tuple_iterator_next_1 _))))
  show wpAny _ _ (field (.ref it) 0 >>= _) _ _ s
  refine wpAny_bind (wpAny_field ho hd (x := .ref t) rfl ?_)
  show wpAny _ _ (if (Value.ref t == Value.none) = true then _ else _) _ _ s
  rw [if_neg (show ¬ ((Value.ref t == Value.none) = true) from Bool.false_ne_true)]
  show wpAny _ _ (field (.ref it) 1 >>= _) _ _ s
  refine wpAny_bind (wpAny_field ho hd (x := .int i 0) rfl ?_)
  show wpAny _ _ (seqItems? (.ref t) >>= _) _ _ s
  refine wpAny_bind (wpAny_seqItems hol hdl ?_)
  simp only [Int.toNat_natCast, hx]
  refine wpAny_bind (wpAny_rule (wpAny_bind (wpAny_setField ho hd (by simp) ?_)))
  have sb : Heap.SameBut it s.heap (s.heap.update it (Obj.mapFields (·.setIfInBounds 0 Value.none))) := Heap.SameBut.update ..
  refine stop_hot (A := A.in1) (x1 := x1) (s := { s with heap := s.heap.update it (Obj.mapFields (·.setIfInBounds 0 Value.none)) }) ⟨hh, o1, vs1, (sb.2 x1 hn).trans h1, d1, c1⟩ fun a h' k e => ?_
  refine stop_seen e (hQ h' fun b ob hb e => k b ob ((sb.2 b hb).trans e))
theorem keys_end_hot {K : Type} [DecidableEq K] {knd : KeyKind prog w K} {it d x1 : Addr} {i ep : Nat} {kvs : List (K × Value)} {Q : Option Value → Shared → Prop} (hot : HotAt A x1 s.heap) (hn : x1 ≠ it) (hit : s.heap.IsKeyIter it d i kvs.length ep)
    (hm : s.heap.DictAt knd d kvs ep) (hx : kvs[i]? = none)
    (hQ : ∀ h', Heap.ExtBut it s.heap h' → Q none { s with heap := h' }) : wpAny (model prog w) A (pyNext (.ref it)) Q E s := by
  obtain ⟨o, ho, hc, hd⟩ := id hit
  obtain ⟨od, es, hod, hcd, hdd, hk, hp, hnd⟩ := id hm
  obtain ⟨hh, o1, vs1, h1, d1, c1⟩ := hot
  unfold pyNext
  refine wpAny_bind (wpAny_attempt (wpAny_callSpecial?_slot (name := Str.ofString "__next__") hit.typeIs F.slot_dict_keyiterator_next
    (wpAny_call_entry F.slot_dict_keyiterator_next hit.typeIs F.entry_dict_keyiterator_next ?_ (F.args_dict_keyiterator_next_1 _))))
  refine wpAny_bind (wpAny_pure ?_)
  refine wpAny_bind ?_
  refine wpAny_bind ?_
  first | refine wpAny_bind (wpAny_typeNameOfWhole_keyiter hit.typeIs (wpAny_pure ?_)) | refine wpAny_bind (wpAny_typeNameOf_keyiter hit.typeIs (wpAny_pure ?_))
  refine wpAny_bind (wpAny_fieldsOf ho hd ?_)
  have hown : Builtin.Dict_items.ownsTuple "dict_keyiterator" = false := by decide
  simp only [hown, Bool.false_eq_true, if_false]
  show wpAny _ _ (if (Value.ref d == Value.none) = true then _ else _) _ _ s
  rw [if_neg (show ¬ ((Value.ref d == Value.none) = true) from Bool.false_ne_true)]
  refine wpAny_bind (wpAny_pure ?_)
  refine wpAny_bind (wpAny_dictEntries hod hdd ?_)
  have hsz : es.size = kvs.length := by rw [← hp.length]; simp
  rw [if_neg (by rw [hsz]; simp)]
  refine wpAny_bind (wpAny_pure ?_)
  refine wpAny_bind (wpAny_dictEpoch hod hdd ?_)
  rw [if_neg (by simp)]
  refine wpAny_pure ?_
  have hge : es.size ≤ i := by rw [hsz]; simpa using hx
  simp only [show ¬ ((i : Int) < 0) from by omega, if_false, Int.toNat_natCast, Array.getElem?_eq_none hge]
  refine wpAny_bind ?_
  first | refine wpAny_bind (wpAny_typeNameOfWhole_keyiter hit.typeIs (wpAny_pure ?_)) | refine wpAny_bind (wpAny_typeNameOf_keyiter hit.typeIs (wpAny_pure ?_))
  show wpAny _ _ (setField (.ref it) 0 .none >>= _) _ _ s
  refine wpAny_bind (wpAny_setField ho hd (by simp) ?_)
  have sb : Heap.SameBut it s.heap (s.heap.update it (Obj.mapFields (·.setIfInBounds 0 Value.none))) := Heap.SameBut.update ..
  refine stop_hot (A := A.in1) (x1 := x1) (s := { s with heap := s.heap.update it (Obj.mapFields (·.setIfInBounds 0 Value.none)) }) ⟨hh, o1, vs1, (sb.2 x1 hn).trans h1, d1, c1⟩ fun a h' k e => ?_
  refine stop_seen e (hQ h' fun b ob hb e => k b ob ((sb.2 b hb).trans e))
end
end EvM
set_option linter.all false
set_option maxRecDepth 100000
set_option maxHeartbeats 4000000
/-! EvM2: loops and list comprehensions, while an exception is handled or not. -/
namespace EvM
open PySem PySem.Spec PyProof.Rows L2 HotX L2H

/-- no exception is handled, or a known one -/
def Mild (X : Cx) : Prop := X.calm = true ∨ HotC X

/-- an iterator, its own objects at fp -/
structure TurnM (P : Program) (w : World) (K : PySem.W.Frag) (tg : Expr) (J : It) (fp : List Addr) (it : Addr) (tn : Nat → Heap → Prop) : Prop where
  mem : it ∈ fp
  obj : ∀ i h, tn i h → ∀ b ∈ fp, ∃ o, h.get? b = some o ∧ ∀ v, o.data ≠ .cell v
  keep : ∀ i h h', tn i h → (∀ b ∈ fp, ∀ o, h.get? b = some o → h'.get? b = some o) → tn i h'
  item : ∀ (X : Cx), X.prog = P → X.w = w → X.K = K → Mild X → ∀ (i : Nat) (pins : List (Addr × Obj)) (s : Shared) (σ : L2.St) (H : Hp) (E : Value → Shared → Prop), Inv X pins σ H s → (∀ b ∈ fp, FpOk X pins H b) → tn i s.heap → J.go i H →
    wpAny (model P w) X.A (pyNext (.ref it)) (fun r s1 => ∃ u, r = some u ∧
      wpAny (model P w) X.A (letOwnedTupleGo tg (.ref it) u) (fun _ s2 => ∃ x H', Inv X pins σ H' s2 ∧ RelV x u ∧ J.yld i H x H' ∧ tn (i + 1) s2.heap ∧ ∀ b ∈ fp, H' b = none) E s1) E s
  done : ∀ (X : Cx), X.prog = P → X.w = w → X.K = K → Mild X → ∀ (i : Nat) (pins : List (Addr × Obj)) (s : Shared) (σ : L2.St) (H : Hp) (E : Value → Shared → Prop), Inv X pins σ H s → (∀ b ∈ fp, FpOk X pins H b) → tn i s.heap → J.stop i H →
    wpAny (model P w) X.A (pyNext (.ref it)) (fun r s1 => r = none ∧ Inv X pins σ H s1) E s
  self : ∀ (A : Around) (i : Nat) (s : Shared) (Q : Value → Shared → Prop) (E : Value → Shared → Prop), tn i s.heap → Q (.ref it) s → wpAny (model P w) A (pyIter (.ref it)) Q E s

/-- the handled exception is none of the iterator's -/
theorem hot_ne {X : Cx} {pins : List (Addr × Obj)} {σ : L2.St} {H : Hp} {s : Shared} {it : Addr} (c : HotC X) (I : Inv X pins σ H s) (f : FpOk X pins H it) : ∃ x1, HotAt X.A x1 s.heap ∧ x1 ≠ it := by
  obtain ⟨p, ⟨hh, v1, e1, c1⟩, hp⟩ := c
  exact ⟨p.1, ⟨hh, p.2, v1, (I.pin p (List.mem_append_left _ hp)).1, e1, c1⟩, f.2.2.2.2.2 p (List.mem_append_left _ hp)⟩

section
variable {P : Program} {w : World} {K : PySem.W.Frag} {tg : Expr}
theorem tm_list (a it : Addr) : TurnM P w K tg (Itl K a) [it] it (fun i h => h.IsListIter it a i) where
  mem := (turn_list (P := P) (w := w) (K := K) (tg := tg) a it).mem
  obj := (turn_list (P := P) (w := w) (K := K) (tg := tg) a it).obj
  keep := (turn_list (P := P) (w := w) (K := K) (tg := tg) a it).keep
  item := by
    intro X hP hw hK hm i pins s σ H E I hf st hg
    subst hP hw hK
    obtain ⟨xs, x, hq, hx⟩ := hg
    obtain ⟨its, rv, p, hz⟩ := I.list hq
    obtain ⟨u, hu, ru⟩ := rv.get hx
    obtain ⟨f0, f1, f2, f3, f4, f5⟩ := hf it (by simp)
    refine wpAny_pyNext_list_item st p.isList (x := u) (by simpa using hu) fun h' st' sb => ?_
    have I1 : Inv X pins σ H { s with heap := h' } := I.turned (t' := s.toks) (fun b o hb e => (sb.2 b hb).trans e) f0 f1 f3 f4 f5
    obtain ⟨o, e, c, d⟩ := id st'
    exact ⟨u, rfl, go_of (s := { s with heap := h' }) e c d (by decide) ⟨x, H, I1, ru, ⟨rfl, fun ys hy => by rw [I.list_inj hy hq]; exact hx⟩, st', fun b hb => (hf b hb).1⟩⟩
  done := by
    intro X hP hw hK hm i pins s σ H E I hf st hg
    rcases hm with hc | hc
    · exact (turn_list (P := P) (w := w) (K := K) (tg := tg) a it).done X hP hw hK hc i pins s σ H E I hf st hg
    · subst hP hw hK
      obtain ⟨xs, hq, hx⟩ := hg
      obtain ⟨its, rv, p, hz⟩ := I.list hq
      have hl := rv.length
      obtain ⟨x1, hot, hn⟩ := hot_ne hc I (hf it (by simp))
      obtain ⟨f0, f1, f2, f3, f4, f5⟩ := hf it (by simp)
      exact list_end_hot hot hn st p.isList (by simp; omega) fun h' eb => ⟨rfl, I.turned (t' := s.toks) (fun b o hb e => eb b o hb e) f0 f1 f3 f4 f5⟩
  self := (turn_list (P := P) (w := w) (K := K) (tg := tg) a it).self
theorem tm_tuple (a it : Addr) : TurnM P w K tg (Itt K a) [it] it (fun i h => h.IsTupleIter it a i) where
  mem := (turn_tuple (P := P) (w := w) (K := K) (tg := tg) a it).mem
  obj := (turn_tuple (P := P) (w := w) (K := K) (tg := tg) a it).obj
  keep := (turn_tuple (P := P) (w := w) (K := K) (tg := tg) a it).keep
  item := by
    intro X hP hw hK hm i pins s σ H E I hf st hg
    subst hP hw hK
    obtain ⟨xs, x, hq, hx⟩ := hg
    obtain ⟨its, rv, p, hz⟩ := I.tuple hq
    obtain ⟨u, hu, ru⟩ := rv.get hx
    obtain ⟨f0, f1, f2, f3, f4, f5⟩ := hf it (by simp)
    refine wpAny_pyNext_tuple_item st (show s.heap.IsTuple a its.toArray from p) (x := u) (by simpa using hu) fun h' st' sb => ?_
    have I1 : Inv X pins σ H { s with heap := h' } := I.turned (t' := s.toks) (fun b o hb e => (sb.2 b hb).trans e) f0 f1 f3 f4 f5
    obtain ⟨o, e, c, d⟩ := id st'
    exact ⟨u, rfl, go_of (s := { s with heap := h' }) e c d (by decide) ⟨x, H, I1, ru, ⟨rfl, fun ys hy => by rw [I.tuple_inj hy hq]; exact hx⟩, st', fun b hb => (hf b hb).1⟩⟩
  done := by
    intro X hP hw hK hm i pins s σ H E I hf st hg
    rcases hm with hc | hc
    · exact (turn_tuple (P := P) (w := w) (K := K) (tg := tg) a it).done X hP hw hK hc i pins s σ H E I hf st hg
    · subst hP hw hK
      obtain ⟨xs, hq, hx⟩ := hg
      obtain ⟨its, rv, p, hz⟩ := I.tuple hq
      have hl := rv.length
      obtain ⟨x1, hot, hn⟩ := hot_ne hc I (hf it (by simp))
      obtain ⟨f0, f1, f2, f3, f4, f5⟩ := hf it (by simp)
      exact tuple_end_hot hot hn st (show s.heap.IsTuple a its.toArray from p) (by simp; omega) fun h' eb => ⟨rfl, I.turned (t' := s.toks) (fun b o hb e => eb b o hb e) f0 f1 f3 f4 f5⟩
  self := (turn_tuple (P := P) (w := w) (K := K) (tg := tg) a it).self
theorem tm_range (it : Addr) (lo : Int) (n : Nat) : TurnM P w K tg (Itr lo n) [it] it (fun i h => IsRangeIter h it (lo + (i : Nat) * 1) ((n : Int) - (i : Nat)) 1) where
  mem := (turn_range (P := P) (w := w) (K := K) (tg := tg) it lo n).mem
  obj := (turn_range (P := P) (w := w) (K := K) (tg := tg) it lo n).obj
  keep := (turn_range (P := P) (w := w) (K := K) (tg := tg) it lo n).keep
  item := by
    intro X hP hw hK hm i pins s σ H E I hf st hg
    rcases hm with hc | hc
    · exact (turn_range (P := P) (w := w) (K := K) (tg := tg) it lo n).item X hP hw hK hc i pins s σ H E I hf st hg
    · exact (turn_rangeH (P := P) (w := w) (K := K) (tg := tg) it lo n).item X hP hw hK hc i pins s σ H E I hf st hg
  done := by
    intro X hP hw hK hm i pins s σ H E I hf st hg
    rcases hm with hc | hc
    · exact (turn_range (P := P) (w := w) (K := K) (tg := tg) it lo n).done X hP hw hK hc i pins s σ H E I hf st hg
    · exact (turn_rangeH (P := P) (w := w) (K := K) (tg := tg) it lo n).done X hP hw hK hc i pins s σ H E I hf st hg
  self := (turn_range (P := P) (w := w) (K := K) (tg := tg) it lo n).self
theorem tm_keys {kvs : List (Key × V)} {d : Addr} {o : Obj} {es : Array DictEntry} {ep : Nat} (it : Addr) (hod : o.data = .dict es ep) : TurnM P w K tg (Itk d o kvs) [it] it (fun i h => h.IsKeyIter it d i kvs.length ep) where
  mem := (turn_keys (P := P) (w := w) (K := K) (tg := tg) (kvs := kvs) (d := d) it hod).mem
  obj := (turn_keys (P := P) (w := w) (K := K) (tg := tg) (kvs := kvs) (d := d) it hod).obj
  keep := (turn_keys (P := P) (w := w) (K := K) (tg := tg) (kvs := kvs) (d := d) it hod).keep
  item := by
    intro X hP hw hK hm i pins s σ H E I hf st hg
    subst hP hw hK
    obtain ⟨hd, hi⟩ := hg
    obtain ⟨f0, f1, f2, f3, f4, f5⟩ := hf it (by simp)
    obtain ⟨hs, hgd, hx, es', ep', vs, hdt, hsz, kv, hmm⟩ := I.frzK hd
    obtain ⟨rfl, rfl⟩ := dict_ep hod hdt
    obtain ⟨⟨k, v⟩, hkv⟩ : ∃ p, kvs[i]? = some p := ⟨kvs[i], List.getElem?_eq_getElem hi⟩
    obtain ⟨u, hu, ru⟩ := kv_get kv hkv
    have hl : kvs.length = vs.length := Paired.length kv
    rw [hl] at st
    refine wpAny_pyNext_dict_item st hmm hu fun key h' hkey st' sb => ?_
    have I1 : Inv X pins σ H { s with heap := h' } := I.turned (t' := s.toks) (fun b ob hb e => (sb.2 b hb).trans e) f0 f1 f3 f4 f5
    obtain ⟨oi, e, c, dd⟩ := id st'
    refine ⟨key, rfl, go_of (s := { s with heap := h' }) e c dd (by decide) ⟨kV k, H, I1, relV_key (show keyIs k key = true from hkey), ⟨rfl, k, v, hkv, rfl⟩, ?_, fun b hb => (hf b hb).1⟩⟩
    show h'.IsKeyIter it d (i + 1) kvs.length _
    rw [hl]
    exact st'
  done := by
    intro X hP hw hK hm i pins s σ H E I hf st hg
    rcases hm with hc | hc
    · exact (turn_keys (P := P) (w := w) (K := K) (tg := tg) (kvs := kvs) (d := d) it hod).done X hP hw hK hc i pins s σ H E I hf st hg
    · subst hP hw hK
      obtain ⟨hd, hi⟩ := hg
      obtain ⟨hs, hgd, hx, es', ep', vs, hdt, hsz, kv, hmm⟩ := I.frzK hd
      obtain ⟨rfl, rfl⟩ := dict_ep hod hdt
      have hl : kvs.length = vs.length := Paired.length kv
      rw [hl] at st
      obtain ⟨x1, hot, hn⟩ := hot_ne hc I (hf it (by simp))
      obtain ⟨f0, f1, f2, f3, f4, f5⟩ := hf it (by simp)
      exact keys_end_hot hot hn st hmm (List.getElem?_eq_none (by omega)) fun h' eb => ⟨rfl, I.turned (t' := s.toks) (fun b o hb e => eb b o hb e) f0 f1 f3 f4 f5⟩
  self := (turn_keys (P := P) (w := w) (K := K) (tg := tg) (kvs := kvs) (d := d) it hod).self
end

/-! ### what is walked -/
def PIE (X : Cx) (pins : List (Addr × Obj)) (σ : L2.St) (tg : Expr) (R : It → Hp → Prop) (itv : Value) (s2 : Shared) : Prop :=
  ∃ (it : Addr) (fp : List Addr) (tn : Nat → Heap → Prop) (J : It) (H' : Hp), itv = .ref it ∧ Inv X pins σ H' s2 ∧ TurnM X.prog X.w X.K tg J fp it tn ∧ tn 0 s2.heap ∧ (∀ b ∈ fp, FpOk X pins H' b) ∧ R J H'
structure PI (X : Cx) (tg iter : Expr) (wi : TI) : Prop where
  run : ∀ (pins : List (Addr × Obj)) (s : Shared) (σ : L2.St) (H : Hp) (R : It → Hp → Prop), Inv X pins σ H s → wi σ H R →
    wpAny (model X.prog X.w) X.A (eval iter X.env) (fun v s1 => wpAny (model X.prog X.w) X.A (pyIter v) (PIE X pins σ tg R) X.xe s1) X.xe s
section
variable {X : Cx} {tg : Expr}
theorem pie_one {pins : List (Addr × Obj)} {σ : L2.St} {H : Hp} {s : Shared} {R : It → Hp → Prop} {J : It} {tn : Nat → Heap → Prop} (I : Inv X pins σ H s) (o : Obj)
    (T : TurnM X.prog X.w X.K tg J [s.heap.objs.size] s.heap.objs.size tn) (st : tn 0 (s.heap.push o)) (q : R J H) : PIE X pins σ tg R (.ref s.heap.objs.size) { s with heap := s.heap.push o } := by
  refine ⟨s.heap.objs.size, [s.heap.objs.size], tn, J, H, rfl, I.kept (t' := s.toks) fun b ob e => Heap.get?_push_of_some _ e, T, st, fun b hb => ?_, q⟩
  have e : b = s.heap.objs.size := by simpa using hb
  subst e
  exact I.fpOk (Nat.le_refl _) (I.hok.fresh (Nat.le_refl _))
/-- a list, a tuple, a dict (which is locked from here on) -/
def rWalk (K : PySem.W.Frag) (x : V) (H : Hp) (R : It → Hp → Prop) : Prop :=
  ∃ a, x = .ref a ∧ ((∃ xs, SqL K H a xs ∧ R (Itl K a) H) ∨ (∃ xs, SqT K H a xs ∧ R (Itt K a) H) ∨
    (∃ kvs, H a = some (.dK kvs) ∧ ∀ o, R (Itk a o kvs) (upd H a (.frz o (.dK kvs)))) ∨ ∃ o kvs, H a = some (.frz o (.dK kvs)) ∧ R (Itk a o kvs) H)
theorem pi_walk {l : Expr} {tl : TE} (hl : PE X l tl) : PI X tg l (fun σ H R => tl σ H fun x H1 => rWalk X.K x H1 R) := by
  refine ⟨fun pins s σ H R I h => ?_⟩
  refine thn (hl.run pins s σ H _ I h) fun v s1 ⟨x, H1, I1, r1, a, e, q⟩ => ?_
  subst e
  cases r1
  rcases q with ⟨xs, hq, q⟩ | ⟨xs, hq, q⟩ | ⟨kvs, hq, q⟩ | ⟨o, kvs, hq, q⟩
  · obtain ⟨its, rv, p, hz⟩ := I1.list hq
    exact wpAny_pyIter_list p.isList (pie_one I1 _ (tm_list a _) ⟨_, Heap.get?_push_size _ rfl, rfl, rfl⟩ q)
  · obtain ⟨its, rv, p, hz⟩ := I1.tuple hq
    exact wpAny_pyIter_tuple (show s1.heap.IsTuple a its.toArray from p) (pie_one I1 _ (tm_tuple a _) ⟨_, Heap.get?_push_size _ rfl, rfl, rfl⟩ q)
  · obtain ⟨od, I2⟩ := I1.lock hq True.intro
    have hd : upd H1 a (.frz od (.dK kvs)) a = some (.frz od (.dK kvs)) := upd_same
    obtain ⟨hs, hgd, hx, es, ep, vs, hdt, hsz, kv, hm⟩ := I2.frzK hd
    refine iter_keys hs hgd hx hdt (pie_one I2 _ (tm_keys _ hdt) ⟨_, Heap.get?_push_size _ rfl, rfl, ?_⟩ (q od))
    rw [hsz] <;> rfl
  · obtain ⟨hs, hgd, hx, es, ep, vs, hdt, hsz, kv, hm⟩ := I1.frzK hq
    refine iter_keys hs hgd hx hdt (pie_one I1 _ (tm_keys _ hdt) ⟨_, Heap.get?_push_size _ rfl, rfl, ?_⟩ q)
    rw [hsz] <;> rfl
/-- a range -/
theorem range_it {pins : List (Addr × Obj)} {σ : L2.St} {H : Hp} {s : Shared} {R : It → Hp → Prop} {E : Value → Shared → Prop} {lo hi : Int} {t u v : Tok} {tk : Nat} (I : Inv X pins σ H s) (h1 : -(2 ^ 62) ≤ lo) (h2 : lo < 2 ^ 62) (h3 : -(2 ^ 62) ≤ hi) (h4 : hi < 2 ^ 62)
    (q : R (Itr lo (hi - lo).toNat) H) : wpAny (model X.prog X.w) X.A (pyIter (.ref s.heap.objs.size)) (PIE X pins σ tg R) E { s with heap := s.heap.push { cls := .type "range", data := .fields #[.int lo t, .int hi u, .int 1 v] }, toks := tk } := by
  refine wpAny_pyIter_range (IsRange.new ..) (small_one h1 h2 h3 h4) ?_
  have I1 : Inv X pins σ H { s with heap := s.heap.push { cls := .type "range", data := .fields #[.int lo t, .int hi u, .int 1 v] }, toks := tk } := I.kept fun b o e => Heap.get?_push_of_some _ e
  refine pie_one I1 _ (tm_range _ lo (hi - lo).toNat) ?_ q
  have e1 : lo + ((0 : Nat) : Int) * 1 = lo := by simp
  have e2 : (((hi - lo).toNat : Nat) : Int) - ((0 : Nat) : Int) = Builtin.Range.rangeSize lo hi 1 := by rw [rangeSize_one]; split <;> omega
  show IsRangeIter _ _ (lo + ((0 : Nat) : Int) * 1) ((((hi - lo).toNat : Nat) : Int) - ((0 : Nat) : Int)) 1
  rw [e1, e2]
  exact Heap.get?_push_size _ rfl
theorem pi_r1 {a : Expr} {ta : TE} {p pos : Pos} (hg : Gl X "range") (hm : X.mg "range" = none) (ha : PE X a ta) (hs : starEach [a] X.env = [(false, eval a X.env)]) : PI X tg (.Call (.Name "range" p) [a] [] pos)
    (fun σ H R => ta σ H fun x H1 => ∃ j : Int, x = .int j ∧ (-(2 ^ 62) ≤ j ∧ j < 2 ^ 62) ∧ R (Itr 0 j.toNat) H1) := by
  refine ⟨fun pins s σ H R I h => ?_⟩
  have pa : PA X [a] (tCons ta tNil) := pa_cons ha pa_nil (by rw [hs]; rfl)
  refine Call_ (ld_blt I hg hm boot_range (PyProof.Rows.callWith_type1 (thn (pa.run pos pins s σ H (fun vs H1 => ∃ j : Int, vs = [.int j] ∧ (-(2 ^ 62) ≤ j ∧ j < 2 ^ 62) ∧ R (Itr 0 j.toNat) H1) I ?_) fun us s1 ⟨vs, H1, I1, r1, q1⟩ => ?_) hs rfl))
  · have h' : ta σ H fun x H1 => ∃ j : Int, x = .int j ∧ (-(2 ^ 62) ≤ j ∧ j < 2 ^ 62) ∧ R (Itr 0 j.toNat) H1 := h
    show ta σ H fun x H1 => ∃ j : Int, [x] = [V.int j] ∧ _
    simpa using h'
  · obtain ⟨j, e, ⟨q1, q2⟩, q⟩ := q1
    subst e
    cases r1 with
    | cons r rr =>
      cases rr
      obtain ⟨t, rfl⟩ := r
      exact call_range_1 (range_it I1 (by omega) (by omega) q1 q2 (by simpa using q))
theorem pi_r2 {a b : Expr} {ta tb : TE} {p pos : Pos} (hg : Gl X "range") (hm : X.mg "range" = none) (ha : PE X a ta) (hb : PE X b tb) (hs : starEach [a, b] X.env = [(false, eval a X.env), (false, eval b X.env)]) (hs2 : starEach [b] X.env = [(false, eval b X.env)]) :
    PI X tg (.Call (.Name "range" p) [a, b] [] pos) (fun σ H R => ta σ H fun x H1 => tb σ H1 fun y H2 => ∃ i j : Int, x = .int i ∧ y = .int j ∧ (-(2 ^ 62) ≤ i ∧ i < 2 ^ 62 ∧ -(2 ^ 62) ≤ j ∧ j < 2 ^ 62) ∧ R (Itr i (j - i).toNat) H2) := by
  refine ⟨fun pins s σ H R I h => ?_⟩
  have pa : PA X [a, b] (tCons ta (tCons tb tNil)) := pa_cons ha (pa_cons hb pa_nil (by rw [hs2]; rfl)) (by rw [hs, hs2])
  refine Call_ (ld_blt I hg hm boot_range (PyProof.Rows.callWith_type1 (thn (pa.run pos pins s σ H (fun vs H1 => ∃ i j : Int, vs = [.int i, .int j] ∧ (-(2 ^ 62) ≤ i ∧ i < 2 ^ 62 ∧ -(2 ^ 62) ≤ j ∧ j < 2 ^ 62) ∧ R (Itr i (j - i).toNat) H1) I ?_) fun us s1 ⟨vs, H1, I1, r1, q1⟩ => ?_) (by rw [hs, hs2]) (by rw [hs2]; rfl)))
  · have h' : ta σ H fun x H1 => tb σ H1 fun y H2 => ∃ i j : Int, x = .int i ∧ y = .int j ∧ (-(2 ^ 62) ≤ i ∧ i < 2 ^ 62 ∧ -(2 ^ 62) ≤ j ∧ j < 2 ^ 62) ∧ R (Itr i (j - i).toNat) H2 := h
    show ta σ H fun x H1 => tb σ H1 fun y H2 => ∃ i j : Int, [x, y] = [V.int i, V.int j] ∧ _
    simpa [and_assoc] using h'
  · obtain ⟨i, j, e, ⟨q1, q2, q3, q4⟩, q⟩ := q1
    subst e
    cases r1 with
    | cons r rr =>
      cases rr with
      | cons r' rr =>
        cases rr
        obtain ⟨t, rfl⟩ := r
        obtain ⟨t', rfl⟩ := r'
        exact call_range_2 (range_it I1 q1 q2 q3 q4 q)
end
end EvM
set_option linter.all false
set_option maxRecDepth 100000
set_option maxHeartbeats 4000000
/-! EvM3: the for statement, the list comprehension. -/
namespace EvM
open PySem PySem.Spec PyProof.Rows L2 HotX L2H

section
variable {X : Cx} {tg : Expr} {pos : Pos}
theorem ps_forM {iter : Expr} {body : List Stmt} {wi : TI} {g : TG} {tb : TS} (hp : PassesOwn (model X.prog X.w) X.A X.env X.xe) (hc : Mild X) (hi : PI X tg iter wi) (hg : PG X tg g) (hb : PSs X body tb)
    (hs : ∀ x, foldedSetIterable iter X.env x = pure x) : PS X (.For tg iter body [] pos) (tFor wi g tb) := by
  refine ⟨fun pins s σ H D I h => ?_⟩
  refine wpAny_For (thn (hi.run pins s σ H _ I h) fun v s1 h1 => thn h1 fun itv s2 h2 => ?_) hs
  obtain ⟨it, fp, tn, J, H2, e, I2, T, st2, f2, W, ⟨m0, w0⟩, turn⟩ := h2
  subst e
  have stat : ∀ {H' : Hp}, (∀ b ∈ fp, H' b = none) → ∀ b ∈ fp, FpOk X pins H' b := fun hn b hb => ⟨hn b hb, (f2 b hb).2⟩
  refine codeAny_forLoop_any (fun n s' => ∃ i σ' H', Inv X pins σ' H' s' ∧ tn i s'.heap ∧ (∀ b ∈ fp, H' b = none) ∧ W i n σ' H') ?_ m0 ⟨0, σ, H2, I2, st2, fun b hb => (f2 b hb).1, w0⟩
  rintro n s3 ⟨i, σ3, H3, I3, st3, fr3, w3⟩
  rcases turn i n σ3 H3 w3 with ⟨stop, qn⟩ | ⟨go, N, hN, step⟩
  · refine wpAny_passesOwn hp (thn (T.done X rfl rfl rfl hc i pins s3 σ3 H3 X.xe I3 (stat fr3) st3 stop) fun r s4 ⟨hr, I4⟩ => ?_)
    subst hr
    exact wpAny_execs_nil ⟨σ3, H3, I4, qn⟩
  · refine wpAny_passesOwn hp (thn (T.item X rfl rfl rfl hc i pins s3 σ3 H3 X.xe I3 (stat fr3) st3 go) fun r s4 ⟨u, hr, h4⟩ => ?_)
    subst hr
    refine wpAny_passesOwn hp (thn h4 fun _ s5 ⟨x, H5, I5, r5, y5, st5, fr5⟩ => ?_)
    have I5' := I5.pinned (stat fr5) (T.obj _ _ st5)
    refine wpAny_passesOwn hp (thn (hg.run _ s5 σ3 H5 x u _ I5' r5 (step x H5 y5)) fun _ s6 ⟨σ6, H6, I6, q6⟩ => ?_)
    refine wpAny_passesOwn hp (thn (hb.run _ s6 σ6 H6 _ I6 q6) fun f s7 q7 => ?_)
    have again : ∀ {σ7 : L2.St} {H7 : Hp}, Inv X (pins ++ pinsAt fp s5.heap) σ7 H7 s7 → N σ7 H7 → ∃ m, m < n ∧ ∃ i σ' H', Inv X pins σ' H' s7 ∧ tn i s7.heap ∧ (∀ b ∈ fp, H' b = none) ∧ W i m σ' H' := fun {σ7 H7} I7 n7 => by
      obtain ⟨m', hm, w7⟩ := hN σ7 H7 n7
      refine ⟨m', hm, i + 1, σ7, H7, I7.unpinned, T.keep _ _ _ st5 fun b hb o e => (I7.pin (b, o) (List.mem_append_right _ (List.mem_append_right _ (mem_pinsAt hb e)))).1, fun b hb => ?_, w7⟩
      obtain ⟨o, e, d⟩ := T.obj _ _ st5 b hb
      exact (I7.pin (b, o) (List.mem_append_right _ (List.mem_append_right _ (mem_pinsAt hb e)))).2.1
    cases f with
    | next => obtain ⟨σ7, H7, I7, n7⟩ := q7; exact again I7 n7
    | cont => obtain ⟨σ7, H7, I7, n7⟩ := q7; exact again I7 n7
    | brk => obtain ⟨σ7, H7, I7, q7⟩ := q7; exact ⟨σ7, H7, I7.unpinned, q7⟩
    | ret v => obtain ⟨x7, σ7, H7, I7, r7, q7⟩ := q7; exact ⟨x7, σ7, H7, I7.unpinned, r7, q7⟩
end

/-! ### comprehensions -/
/-- a block's context, what is pinned kept -/
abbrev blkP (X : Cx) (s : Shared) (H : Hp) (scope : Scope) (cenv : Env) (fp : List Addr) : Cx := { X.blk s H scope cenv fp with pn := X.pn }
theorem ok_pn {X : Cx} (ok : X.Ok) (pn : List (Addr × Obj)) : ({ X with pn := pn } : Cx).Ok :=
  ⟨ok.mod, ok.kind, ok.glob, ok.blt, ok.above, ok.inj, ok.has, ok.cab, ok.hd, ok.frames, ok.stk, ok.exf, ok.bs, ok.bsz, ok.noex, ok.exfs, ok.funs, ok.frf⟩
theorem inv_pn {X : Cx} {pins : List (Addr × Obj)} {σ : L2.St} {H : Hp} {s : Shared} (I : Inv X pins σ H s) (pn : List (Addr × Obj))
    (h : ∀ p ∈ pn, s.heap.get? p.1 = some p.2 ∧ H p.1 = none ∧ p.1 ≠ X.env.locals ∧ p.1 ∉ X.fs ∧ ∀ v, p.2.data ≠ .cell v) : Inv { X with pn := pn } pins σ H s :=
  ⟨ok_pn I.ok pn, I.os, I.bare, I.base, I.loc, I.cell, I.free, I.freeC, fun p hp => (List.mem_append.mp hp).elim (h p) fun z => I.pin p (List.mem_append_right _ z), I.hok, I.len⟩
theorem Mild.blkP {X : Cx} {s : Shared} {H : Hp} {scope : Scope} {cenv : Env} {fp : List Addr} (c : Mild X) : Mild (blkP X s H scope cenv fp) := by
  rcases c with c | ⟨p, hh, hp⟩
  · exact .inl c
  · exact .inr ⟨p, hh, hp⟩

section
variable {X : Cx}
/-- [elt for target in iter if ..]: as tLc -/
theorem lc_coreM {pins : List (Addr × Obj)} {s : Shared} {σ : L2.St} {H : Hp} {Q : VK} {elt tg iter : Expr} {ifs : List Expr} {scope : Scope} {own : List (Str × Nat)} {pos pos' : Pos} {wi : TI} {g : TG} {tt : TT} {te : TE} {use : Option (Value → Sem Unit)} {Qf : Value → Shared → Prop}
    (hc : Mild X) (hN : X.N.Nodup) (I : Inv X pins σ H s) (hi : PI X tg iter wi) (ok : BlkOk X.N X.env.scope scope own)
    (hg : ∀ (s : Shared) (H : Hp) (C : Addr) (cl : List (Str × Addr)) (fp : List Addr), PG (blkP X s H scope (compEnvC scope cl C X.env) fp) tg g) (ht : ∀ (s : Shared) (H : Hp) (C : Addr) (cl : List (Str × Addr)) (fp : List Addr), PTs (blkP X s H scope (compEnvC scope cl C X.env) fp) ifs tt)
    (he : ∀ (s : Shared) (H : Hp) (C : Addr) (cl : List (Str × Addr)) (fp : List Addr), PE (blkP X s H scope (compEnvC scope cl C X.env) fp) elt te) (hs : ∀ x, foldedSetIterable iter X.env x = pure x)
    (h : tLc wi g tt te (own.map (·.2)) σ H Q)
    (hRR : ∀ D C s' m H', Inv X pins σ H' s' → Q (.ref D) H' → s'.heap.Ns C m → FpOk X pins H' C → compPost (model X.prog X.w) X.A X.xe use Qf (.ref D) C (.ok .next) s') :
    wpAny (model X.prog X.w) X.A (comprehension (.ListComp elt [⟨tg, iter, ifs, 0⟩] scope pos) scope X.env pos' (newList []) false (eval iter X.env) use) Qf X.xe s := by
  have hfree : ∀ y ∈ scope.names, y.2 = .free → ∃ c, X.env.cells.lookup y.1 = some c := fun y hy e => by
    rcases ok.free y hy e with k | k
    · exact I.ok.has _ (.inl k)
    · exact I.ok.has _ (.inr k)
  refine wpAny_comprehension_free (use := use) rfl hs (closure_ok hfree) ok.kind (fun y hy e => by rw [ok.uniq y hy, e])
    (thn (hi.run pins s σ H _ I h) fun xv s1 hx => thn hx fun itv s2 h2 => ?_)
  obtain ⟨it, fp, tn, J, H2, e, I2, T, st2, f2, q⟩ := h2
  subst e
  refine wpAny_newObj_type (newEnv_comp ?_) (by show 0 ≤ sizeLine; decide)
  generalize hD : s2.heap.objs.size = D
  have hDn : H2 D = none := I2.hok.fresh (Nat.le_of_eq hD)
  obtain ⟨W, ⟨m0, w0⟩, turn⟩ := q D hDn
  generalize hs3 : ({ s2 with heap := s2.heap.push { cls := .type "list", data := .seq ([] : List Value).toArray } } : Shared) = s3
  have I3 : Inv X pins σ (upd H2 D (.lst [])) s3 := by
    rw [← hs3]
    refine I2.laid (t' := s2.toks) (fun b o e => Heap.get?_push_of_some _ e) (Nat.le_of_eq hD) ⟨Nat.zero_le _, [], 0, .nil, ?_⟩
    rw [← hD]
    exact Heap.get?_push_size _ rfl
  have h3 : s3.heap = s2.heap.push { cls := .type "list", data := .seq ([] : List Value).toArray } := by rw [← hs3]
  have sz : ∀ b ∈ fp, b < s2.heap.objs.size := fun b hb => by
    obtain ⟨o, e, _⟩ := T.obj _ _ st2 b hb
    exact Heap.lt_size e
  have f3 : ∀ b ∈ fp, FpOk X pins (upd H2 D (.lst [])) b ∧ b < s3.heap.objs.size := fun b hb => by
    have hlt := sz b hb
    refine ⟨⟨?_, (f2 b hb).2⟩, by rw [h3, Heap.size_push]; exact Nat.lt_succ_of_lt hlt⟩
    rw [upd_ne (by rw [← hD]; exact Nat.ne_of_lt hlt)]
    exact (f2 b hb).1
  have st3 : tn 0 s3.heap := T.keep _ _ _ st2 fun b _ o e => by rw [h3]; exact Heap.get?_push_of_some _ e
  have I4' := block_start I3 ok hN f3
  have pg := hg s3 (upd H2 D (.lst [])) s3.heap.objs.size (cellsFrom (s3.heap.objs.size + 1) scope.names (cloFrom X.env.cells scope.names [])) fp
  have pt := ht s3 (upd H2 D (.lst [])) s3.heap.objs.size (cellsFrom (s3.heap.objs.size + 1) scope.names (cloFrom X.env.cells scope.names [])) fp
  have pe := he s3 (upd H2 D (.lst [])) s3.heap.objs.size (cellsFrom (s3.heap.objs.size + 1) scope.names (cloFrom X.env.cells scope.names [])) fp
  show codeAny _ _ (.compStart (.ListComp elt [⟨tg, iter, ifs, 0⟩] scope pos) 0 (.ref it) (.ref D) (compEnvC scope (cellsFrom (s3.heap.objs.size + 1) scope.names (cloFrom X.env.cells scope.names [])) s3.heap.objs.size X.env)) (compPost (model X.prog X.w) X.A X.xe use Qf (.ref D) s3.heap.objs.size) { s3 with heap := pushCells (s3.heap.push { cls := .type "dict", data := .dict #[] }) scope.names }
  have nfp : ∀ b ∈ fp, (upd H2 D (.lst [])) b = none := fun b hb => (f3 b hb).1.1
  generalize hce : compEnvC scope (cellsFrom (s3.heap.objs.size + 1) scope.names (cloFrom X.env.cells scope.names [])) s3.heap.objs.size X.env = ce at I4' pg pt pe ⊢
  have cL : ce.locals = s3.heap.objs.size := by subst hce; rfl
  generalize hH3 : upd H2 D (.lst []) = H3 at I3 I4' pg pt pe w0 nfp f3
  generalize hs4 : ({ s3 with heap := pushCells (s3.heap.push { cls := .type "dict", data := .dict #[] }) scope.names } : Shared) = s4 at I4' ⊢
  have kp4 : ∀ b o, s3.heap.get? b = some o → s4.heap.get? b = some o := fun b o e => by rw [← hs4]; exact pushCells_keeps _ _ _ _ (Heap.get?_push_of_some _ e)
  have st4 : tn 0 s4.heap := T.keep _ _ _ st3 fun b _ o e => kp4 b o e
  -- what was pinned is pinned within
  have I4 : Inv (blkP X s3 H3 scope ce fp) [] (wipe σ (own.map (·.2))) H3 s4 := inv_pn I4' X.pn fun p hp => by
    have z := I3.pin p (List.mem_append_left _ hp)
    refine ⟨kp4 _ _ z.1, z.2.1, ?_, fun hm => ?_, z.2.2.2.2⟩
    · show p.1 ≠ ce.locals
      rw [cL]
      exact Nat.ne_of_lt (Heap.lt_size z.1)
    · exact (List.mem_cons.mp (I3.stkSub p.1 hm)).elim z.2.2.1 z.2.2.2.1
  have stat : ∀ {σ' : L2.St} {H' : Hp} {s' : Shared}, Inv (blkP X s3 H3 scope ce fp) [] σ' H' s' → (∀ b ∈ fp, H' b = none) → ∀ b ∈ fp, FpOk (blkP X s3 H3 scope ce fp) [] H' b := fun {σ' H' s'} I' hn b hb =>
    ⟨hn b hb, (I'.ok.exf b hb).1, I'.ok.exfs b hb, .inl hb, fun x c e => (I'.ok.exf b hb).2 x c e, fun p hp => (f3 b hb).1.2.2.2.2.2 p (by
      have hp' : p ∈ X.pn ++ [] := hp
      rw [List.append_nil] at hp'
      exact List.mem_append_left _ hp')⟩
  have loop : codeAny (model X.prog X.w) X.A (.compLoop (.ListComp elt [⟨tg, iter, ifs, 0⟩] scope pos) 0 (.ref it) (.ref D) ce) (compPost (model X.prog X.w) X.A X.xe use Qf (.ref D) s3.heap.objs.size) s4 := by
    refine compLoop_any (fun n s' => ∃ i H', Inv (blkP X s3 H3 scope ce fp) [] (wipe σ (own.map (·.2))) H' s' ∧ tn i s'.heap ∧ (∀ b ∈ fp, H' b = none) ∧ W i n H') ?_ m0 ⟨0, H3, I4, st4, nfp, w0⟩
    rintro n s5 ⟨i, H5, I5, st5, n5, w5⟩
    rcases turn i n H5 w5 with ⟨stop, qq⟩ | ⟨go, Nx, hNx, step⟩
    · have td := T.done (blkP X s3 H3 scope ce fp) rfl rfl rfl hc.blkP i [] s5 _ H5 (fun _ _ => False) I5 (stat I5 n5) st5 stop
      refine thnF td fun r s6 ⟨hr, I6⟩ => ?_
      subst hr
      have I7 : Inv X pins σ H5 s6 := I3.call' (ch := fp) I6.os I6.base I6.hok I6.bare fun b hb => ⟨(f3 b hb).1.2.2.2.1, (f3 b hb).1.2.1, (f3 b hb).1.2.2.2.2.1, (f3 b hb).1.2.2.2.2.2⟩
      have nC : H5 s3.heap.objs.size = none := by
        have z : H5 ce.locals = none := I6.free
        rw [cL] at z
        exact z
      obtain ⟨m, hn, _⟩ := I6.loc
      have hn : s6.heap.Ns ce.locals m := hn
      rw [cL] at hn
      exact hRR D s3.heap.objs.size s6 m H5 I7 qq hn (I3.fpOk (Nat.le_refl _) nC)
    · have ti := T.item (blkP X s3 H3 scope ce fp) rfl rfl rfl hc.blkP i [] s5 _ H5 (fun _ _ => False) I5 (stat I5 n5) st5 go
      refine thnF ti fun r s6 ⟨u, hr, h6⟩ => ?_
      subst hr
      refine thnF h6 fun _ s7 ⟨x, H7, I7, r7, y7, st7, n7⟩ => ?_
      have I7' := I7.pinned (stat I7 n7) (T.obj _ _ st7)
      refine thnF (pg.run _ s7 _ H7 x u _ I7' r7 (step x H7 y7)) fun _ s8 ⟨σ8, H8, I8, hw8, q8⟩ => ?_
      refine thnF (pt.run _ s8 σ8 H8 _ I8 q8) fun b s9 ⟨H9, I9, q9⟩ => ?_
      have fin : ∀ {s' : Shared} {H' : Hp}, Inv (blkP X s3 H3 scope ce fp) ([] ++ pinsAt fp s7.heap) σ8 H' s' → Nx H' → ∃ m, m < n ∧ ∃ i H', Inv (blkP X s3 H3 scope ce fp) [] (wipe σ (own.map (·.2))) H' s' ∧ tn i s'.heap ∧ (∀ b ∈ fp, H' b = none) ∧ W i m H' := fun {s' H'} I' nx => by
        obtain ⟨m', hm, w'⟩ := hNx H' nx
        have pin' : ∀ b ∈ fp, ∀ o, s7.heap.get? b = some o → s'.heap.get? b = some o ∧ H' b = none := fun b hb o e =>
          let z := I'.pin (b, o) (List.mem_append_right _ (List.mem_append_right _ (mem_pinsAt hb e)))
          ⟨z.1, z.2.1⟩
        have hl : (wipe σ (own.map (·.2))).length = σ8.length := by rw [← hw8, wipe_length]
        refine ⟨m', hm, i + 1, H', (I'.unpinned (pins := [])).weak hl (fun j v e => ?_), T.keep _ _ _ st7 fun b hb o e => (pin' b hb o e).1, fun b hb => ?_, w'⟩
        · rw [← hw8] at e
          exact (wipe_some e).1
        · obtain ⟨o, e, _⟩ := T.obj _ _ st7 b hb
          exact (pin' b hb o e).2
      cases b with
      | false =>
        simp only [Bool.false_eq_true, if_false] at q9 ⊢
        exact fin I9 q9
      | true =>
        simp only [if_true] at q9 ⊢
        refine thnF (pe.run _ s9 σ8 H9 _ I9 q9) fun z s10 ⟨yv, H10, I10, r10, acc, hD10, hz10, nx⟩ => ?_
        exact app_ok (X := blkP X s3 H3 scope ce fp) I10 hD10 hz10 r10 fun s11 I11 => fin I11 nx
  exact codeAny_compStart_list loop (T.self X.A 0 _ _ _ st4 loop)
/-- as a value -/
theorem pe_lcM {elt tg iter : Expr} {ifs : List Expr} {scope : Scope} {own : List (Str × Nat)} {pos : Pos} {wi : TI} {g : TG} {tt : TT} {te : TE} (hc : Mild X) (hN : X.N.Nodup) (hi : PI X tg iter wi) (ok : BlkOk X.N X.env.scope scope own)
    (hg : ∀ (s : Shared) (H : Hp) (C : Addr) (cl : List (Str × Addr)) (fp : List Addr), PG (blkP X s H scope (compEnvC scope cl C X.env) fp) tg g) (ht : ∀ (s : Shared) (H : Hp) (C : Addr) (cl : List (Str × Addr)) (fp : List Addr), PTs (blkP X s H scope (compEnvC scope cl C X.env) fp) ifs tt)
    (he : ∀ (s : Shared) (H : Hp) (C : Addr) (cl : List (Str × Addr)) (fp : List Addr), PE (blkP X s H scope (compEnvC scope cl C X.env) fp) elt te) (hs : ∀ x, foldedSetIterable iter X.env x = pure x) :
    PE X (.ListComp elt [⟨tg, iter, ifs, 0⟩] scope pos) (tLc wi g tt te (own.map (·.2))) := by
  refine ⟨fun pins s σ H Q I h => ?_⟩
  rw [eval_ListComp]
  refine lc_coreM hc hN I hi ok hg ht he hs h fun D C s' m H' I' q hn f => ⟨m, hn, fun h'' sb => ?_⟩
  obtain ⟨f0, f1, f2, f3, f4, f5⟩ := f
  exact ⟨.ref D, H', I'.turned (t' := s'.toks) (fun b o hb e => (sb.2 b hb).trans e) f0 f1 f3 f4 f5, rfl, q⟩
/-- name = [..] on one line, the name a local -/
theorem ps_setLcM {i : Nat} {y : Str} {py : Pos} {elt tg iter : Expr} {ifs : List Expr} {scope : Scope} {own : List (Str × Nat)} {pos spos : Pos} {wi : TI} {g : TG} {tt : TT} {te : TE} (hc : Mild X) (hN : X.N.Nodup) (hy : X.N[i]? = some y) (hyl : X.env.scope.names.lookup y = some .local)
    (hsw : swapsWith (.ListComp elt [⟨tg, iter, ifs, 0⟩] scope pos) (some (.Name y py)) spos.line X.env = pure true) (hi : PI X tg iter wi) (ok : BlkOk X.N X.env.scope scope own)
    (hg : ∀ (s : Shared) (H : Hp) (C : Addr) (cl : List (Str × Addr)) (fp : List Addr), PG (blkP X s H scope (compEnvC scope cl C X.env) fp) tg g) (ht : ∀ (s : Shared) (H : Hp) (C : Addr) (cl : List (Str × Addr)) (fp : List Addr), PTs (blkP X s H scope (compEnvC scope cl C X.env) fp) ifs tt)
    (he : ∀ (s : Shared) (H : Hp) (C : Addr) (cl : List (Str × Addr)) (fp : List Addr), PE (blkP X s H scope (compEnvC scope cl C X.env) fp) elt te) (hs : ∀ x, foldedSetIterable iter X.env x = pure x) :
    PS X (.Assign [.Name y py] (.ListComp elt [⟨tg, iter, ifs, 0⟩] scope pos) spos) (tAsg (tLc wi g tt te (own.map (·.2))) (gName i)) := by
  refine ⟨fun pins s σ H D I h => ?_⟩
  rw [exec_Assign_Name_used _ _ _ _ hsw]
  refine wpAny_bind (wpAny_standAt (wpAny_bind ?_))
  show wpAny _ X.A (do let _ ← comprehension (.ListComp elt [⟨tg, iter, ifs, 0⟩] scope pos) scope X.env (firstIterPos [⟨tg, iter, ifs, 0⟩] pos) (newList []) false (eval iter X.env) (some (assign (.Name y py) X.env))) _ _ s
  have h : tLc wi g tt te (own.map (·.2)) σ H (fun x H1 => gName i x σ H1 D.nx) := h
  refine wpAny_bind (thn (lc_coreM (Qf := fun _ s' => SP X pins D .next s') hc hN I hi ok hg ht he hs h fun L C s' m H' I' q hn f => ?_) fun _ s' hq => wpAny_pure (wpAny_pure hq))
  show wpAny _ _ (assign (.Name y py) X.env (.ref L)) _ _ _
  refine wpAny_assign_Name (store_ok2 (v := V.ref L) I' hN hy (.inl hyl) rfl (fun s2 I2 ⟨a, sb, ha⟩ => ?_) (.inr hyl))
  obtain ⟨f0, f1, f2, f3, f4, f5⟩ := f
  have haC : C ≠ a := by
    rcases ha with z | z
    · rw [z]; exact f1
    · exact fun e => f4 y a z e.symm
  refine ⟨m, hn.sameBut sb haC, fun h3 sb3 => ?_⟩
  exact ⟨_, H', I2.turned (t' := s2.toks) (fun b o hb e => (sb3.2 b hb).trans e) f0 f1 f3 f4 f5, q⟩
end

/-! ### calls of the text's own defs -/
/-- what a def keeps, whether an exception is handled around it (h) or not -/
structure FnM (P : Program) (w : World) (K : PySem.W.Frag) (mg : Str → Option Value) (base : Heap) (k : Nat) (f : Addr) (fd : FuncData) (ps : List Str) (sp : Sp) (h : Bool) : Prop where
  calm : FnOk P w K mg base (L2N.CX P w) k f fd ps sp
  hot : h = true → FnH P w K mg base (L2N.CX P w) k f fd ps sp
/-- room, in either state -/
structure RoomM (k : Nat) (X : Cx) : Prop where
  calm : X.calm = true → Room k X.A
  hot : RoomH k X.A
section
variable {X : Cx} {k : Nat} {f : Addr} {fd : FuncData} {ps : List Str} {sp : Sp} {h : Bool} {W : WX}
theorem run_fnM {pins : List (Addr × Obj)} {σ : L2.St} {H : Hp} {s : Shared} {Q : VK} {us : List Value} {kw : List (Str × Value)} {vs : List V} (F : FnM X.prog X.w X.K X.mg X.base k f fd ps sp h) (hr : RoomM k X) (hm : Mild X) (hh : X.calm = true ∨ h = true) (tk : L2N.Takes X W) {ws : List Value}
    (hb : BindsTo s fd ⟨us, kw⟩ (ps.zip ws)) (I : Inv X pins σ H s) (r : Vals vs ws) (q : sp vs H Q (WE W σ)) : wpAny (model X.prog X.w) X.A (PySem.call (.ref f) us kw) (EP X pins σ Q) X.xe s := by
  have go : codeAny (model X.prog X.w) X.A (.call (.ref f) ⟨us, kw⟩) (CR (L2N.CX X.prog X.w) X.stack X.prog X.w H s Q (WE W σ)) s := by
    rcases hm with hc | hc
    · exact F.calm.run X.A X.stack s H ⟨us, kw⟩ ws vs Q (WE W σ) (hr.calm hc) I.env0 hb r q
    · rcases hh with hc' | hh
      · exact F.calm.run X.A X.stack s H ⟨us, kw⟩ ws vs Q (WE W σ) (hr.calm hc') I.env0 hb r q
      · obtain ⟨p, hot, hp⟩ := hc
        have P1 := I.pin p (List.mem_append_left _ hp)
        have hpin : PinOk X.stack H s p := ⟨P1.1, P1.2.1, fun hm => (List.mem_cons.mp (I.stkSub p.1 hm)).elim P1.2.2.1 P1.2.2.2.1, P1.2.2.2.2⟩
        exact (F.hot hh).run X.A X.stack s H ⟨us, kw⟩ ws vs Q (WE W σ) p hr.hot hot hpin I.env0 hb r q
  refine wpAny_call (codeAny_mono go fun r s' hq => ?_)
  cases r with
  | error e => exact L2N.passAt tk σ pins H s e s' I hq
  | ok fl =>
    cases fl with
    | ret u => exact I.after hq
    | next => exact False.elim hq
    | brk => exact False.elim hq
    | cont => exact False.elim hq
end
end EvM
set_option linter.all false
set_option maxRecDepth 100000
set_option maxHeartbeats 4000000
/-! EvM4: error classes over a class of one's own, whose __init__ says T.__init__(self, text) and stores at most one field. -/
namespace EvM
open PySem PySem.Spec PyProof.Rows L2 HotX L2H

/-- what stands of the base class T at cT -/
structure BaseC (K : PySem.W.Frag) (cT : Addr) : Prop where
  sp : PySem.W.specialIn K (.ref cT) "__getattribute__" = some (some (.builtin "type.__getattribute__"))
  rd : PySem.W.readsIn K cT (.type "type") = true
  fi : PySem.W.findCls K (.ref cT) (.type "type") "__init__" = some (.val (.builtin "ValueError.__init__"))

section
variable {X : Cx} {o e : Expr} {es : List Expr} {to te : TE} {ta : TA} {f tn : Str} {p p' p1 p2 pos : Pos} {cT : Addr}
theorem pe_tinit (B : BaseC X.K cT) (hg : Gl X tn) (hm : X.mg tn = some (.ref cT)) (ha : PA X (e :: es) ta) (hl : (p2.endLine == pos.line) = true)
    (he : starEach (e :: es) X.env = (false, eval e X.env) :: starEach es X.env) (hpl : (backTo pos (starEach es X.env)).any (·.1) = false)
    (hf : methodCallForm ((e :: es).length + ([] : List Keyword).length) (backTo pos (starEach (e :: es) X.env)) (backToKw pos (keywordEach [] X.env)) = true) (hdb : (tn == ("__debug__" : Str)) = false) :
    PE X (.Call (.Attribute (.Name tn p1) "__init__" p2) (e :: es) [] pos) (tVeI X.K ta) := by
  refine ⟨fun pins s σ H Q I h => ?_⟩
  have hc : eval (.Call (.Attribute (.Name tn p1) "__init__" p2) (e :: es) [] pos) X.env = (do
      let ov ← eval (.Name tn p1) X.env
      standAt p2.atName
      let (f, first) ← holding [ov] (getMethod ov "__init__" (plainOf (.Name tn p1) X.env))
      callWith pos f first (backTo pos (starEach (e :: es) X.env)) (backToKw pos (keywordEach [] X.env))) := by
    show (do
      let ov ← eval (.Name tn p1) X.env
      standAt p2.atName
      methodCall (.Name tn p1) "__init__" p2 pos X.env ov ((e :: es).length + ([] : List Keyword).length) (backTo pos (starEach (e :: es) X.env)) (backToKw pos (keywordEach [] X.env))) = _
    have z : ∀ ov, methodCall (.Name tn p1) "__init__" p2 pos X.env ov ((e :: es).length + ([] : List Keyword).length) (backTo pos (starEach (e :: es) X.env)) (backToKw pos (keywordEach [] X.env)) = (do
      let (f, first) ← holding [ov] (getMethod ov "__init__" (plainOf (.Name tn p1) X.env))
      callWith pos f first (backTo pos (starEach (e :: es) X.env)) (backToKw pos (keywordEach [] X.env))) := fun ov => mcall_line hf hl
    simp only [z]
  refine PySem.W.methodCall_KW (ld_glob I hg hm ?_ hdb) hc
  refine PySem.W.method_cls I.kIn B.sp (PySem.W.cls_value I.kIn B.rd B.fi (by decide +kernel) ?_)
  show wpAny _ _ (callWith pos (Value.builtin "ValueError.__init__") [] (backTo pos (starEach (e :: es) X.env)) []) _ _ _
  refine PyProof.Rows.callWith_method1 (thn (ha.run pos pins _ σ H _ (I.tok _) h) fun us s1 ⟨vs, H1, I1, r1, a, C, ws, ev, hl, T, ea, q⟩ => ?_) he hpl
  subst ev
  cases r1 with
  | @cons _ u0 _ ur ra rw' =>
    obtain rfl : u0 = Value.ref a := ra
    have hlen : ur.length ≤ sizeLine := by
      rw [← Paired.length rw', sizeLine_eq]
      omega
    exact oinit_ok T I1 ea hlen fun s' J => ⟨.non, H1, J, rfl, q⟩
end

/-! ### the text of __init__ -/
/-- T.__init__(self, 'text'); self.f = g -/
structure InTxt where
  tn : Str
  self : Str
  msg : Str
  fld : Option (Str × Str)
def inOf (body : List Stmt) : Option InTxt := match body with
  | [.Expr (.Call (.Attribute (.Name tn _) ini p2) [.Name x _, .Constant (.str msg) _ _] [] pos) _] =>
    if ini = "__init__" ∧ (p2.endLine == pos.line) = true then some ⟨tn, x, msg, none⟩ else none
  | [.Expr (.Call (.Attribute (.Name tn _) ini p2) [.Name x _, .Constant (.str msg) _ _] [] pos) _, .Assign [.Attribute (.Name x' _) f _] (.Name g _) _] =>
    if ini = "__init__" ∧ (p2.endLine == pos.line) = true ∧ x' = x then some ⟨tn, x, msg, some (f, g)⟩ else none
  | _ => none
/-- what is looked at: the names are the parameters, they are locals, T is a name of the module -/
def inOk (i : InTxt) (sc : Scope) : Bool :=
  decide (sc.names.lookup i.tn = some .globalImplicit) && decide (sc.names.lookup i.self = some .local) && !(i.tn == ("__debug__" : Str)) && !(i.self == ("__debug__" : Str)) && !(i.self == ("__classdict__" : Str)) &&
  (match i.fld with
    | none => true
    | some (f, g) => decide (sc.names.lookup g = some .local) && !(g == ("__debug__" : Str)) && !(g == ("__classdict__" : Str)) && decide (g ≠ i.self))
def inNames (i : InTxt) : List Str := i.self :: (match i.fld with | none => [] | some (_, g) => [g])

/-- the promise of __init__ -/
def spI (K : PySem.W.Frag) (C : Addr) (fld : Option Str) : Sp := fun vs H Q _ => ∃ a, OexC K C ∧ H a = some (exo a C none) ∧ match fld with
  | none => vs = [.ref a] ∧ Q .non H
  | some f => ∃ v, vs = [.ref a, v] ∧ PySem.W.findIn K (.ref C) f = some none ∧ ∀ dx, H dx = none → dx ≠ a → Q .non (upd (upd H dx (exd dx [(f, v)])) a (exo a C (some dx)))

section
variable {P : Program} {w : World} {K : PySem.W.Frag} {mg : Str → Option Value} {base : Heap}
theorem init_ok {fI C cT : Addr} {qual : Str} {params : Arguments} {body : List Stmt} {scope : Scope} {kV doc pm cdv ct oc : Value} {an od : Option Addr} {osl : Array (Option Value)} {i : InTxt}
    (lk : K.lookup fI = some ⟨oc, od, .func (PySem.W.fnOf "__init__" qual params body scope .none kV doc pm an cdv ct), osl⟩) (hcd : PySem.W.codeIn K cdv qual = true)
    (hb : inOf body = some i) (ho : inOk i scope = true) (S : FnScope (inNames i) (inNames i) scope) (B : BaseC K cT) (hm : mg i.tn = some (.ref cT)) :
    FnOk P w K mg base (L2N.CX P w) 2 fI (PySem.W.fnOf "__init__" qual params body scope .none kV doc pm an cdv ct) (inNames i) (spI K C (i.fld.map (·.1))) := by
  refine fn_of lk hcd S (fun vs H Q E h => ?_) fun A outer s H vs Q E hr hsp => ?_
  · obtain ⟨a, _, _, h⟩ := h
    unfold inNames
    cases hf : i.fld with
    | none => rw [hf] at h; obtain ⟨rfl, _⟩ := h; rfl
    | some fg => rw [hf] at h; obtain ⟨v, rfl, _⟩ := h; rfl
  · obtain ⟨a, T, ea, h⟩ := hsp
    generalize hX : cxOf (L2N.CX P w) P w K mg base (inNames i) qual scope fI cdv A outer s H E = X
    have hK : X.K = K := by rw [← hX]; rfl
    have hsc : X.env.scope = scope := by rw [← hX]; rfl
    have hN : X.N = inNames i := by rw [← hX]; rfl
    have hmg : X.mg = mg := by rw [← hX]; rfl
    unfold inOk at ho
    simp only [Bool.and_eq_true, decide_eq_true_eq, Bool.not_eq_true'] at ho
    obtain ⟨⟨⟨⟨⟨o1, o2⟩, o3⟩, o4⟩, o5⟩, o6⟩ := ho
    have gl : Gl X i.tn := by
      show X.env.scope.names.lookup i.tn = _
      rw [hsc]; exact o1
    have vis : Vis X.env.scope i.self := .inl (by rw [hsc]; exact o2)
    have first : PE X (.Name i.self default) (tVar 0) := pe_var (by rw [hN]; rfl) vis o4 o5
    have hB : BaseC X.K cT := by rw [hK]; exact B
    have call1 : ∀ {p1 p2 p3 p4 pos : Pos} {j : Nat}, (p2.endLine == pos.line) = true → PE X (.Call (.Attribute (.Name i.tn p1) "__init__" p2) [.Name i.self p3, .Constant (.str i.msg) j p4] [] pos) (tVeI X.K (tCons (tVar 0) (tCons (tC (.str i.msg)) tNil))) := fun {p1 p2 p3 p4 pos j} hl =>
      pe_tinit hB gl (by rw [hmg]; exact hm) (pa_cons (pe_var (by rw [hN]; rfl) vis o4 o5) (pa_cons pe_str pa_nil)) hl rfl rfl rfl o3
    unfold inOf at hb
    split at hb
    · split at hb
      · rename_i hc
        cases hb
        obtain ⟨rfl, hl⟩ := hc
        obtain ⟨rfl, h⟩ := h
        refine ⟨_, pss_one (ps_expr (call1 hl)), ?_⟩
        exact ⟨_, rfl, a, C, _, rfl, by simp, by rw [hK]; exact T, ea, h⟩
      · cases hb
    · split at hb
      · rename_i hc
        cases hb
        obtain ⟨rfl, hl, rfl⟩ := hc
        obtain ⟨v, rfl, hno, h⟩ := h
        simp only [Bool.and_eq_true, decide_eq_true_eq, Bool.not_eq_true'] at o6
        obtain ⟨⟨⟨g1, g2⟩, g3⟩, g4⟩ := o6
        have visg : Vis X.env.scope _ := .inl (by rw [hsc]; exact g1)
        refine ⟨_, pss_cons (ps_expr (call1 hl)) (pss_one (ps_ost (pe_var (i := 0) (by rw [hN]; rfl) vis o4 o5) (pe_var (i := 1) (by rw [hN]; rfl) visg g2 g3))), ?_⟩
        refine ⟨_, rfl, a, C, _, rfl, by simp, by rw [hK]; exact T, ea, ?_⟩
        refine ⟨_, rfl, _, rfl, a, C, rfl, by rw [hK]; exact T, by rw [hK]; exact hno, .inl ⟨ea, fun dx n ne => h dx n ne⟩⟩
      · cases hb
    · cases hb
end
end EvM
set_option linter.all false
set_option maxRecDepth 100000
set_option maxHeartbeats 4000000
/-! EvM5: such an error is made and raised; try with clauses of either form. -/
namespace EvM
open PySem PySem.Spec PyProof.Rows L2 HotX L2H

/-- what is known of an error class at C -/
structure ErrC (P : Program) (w : World) (K : PySem.W.Frag) (mg : Str → Option Value) (base : Heap) (C : Addr) (fld : Option Str) : Prop where
  oex : OexC K C
  nof : ∀ f, fld = some f → PySem.W.findIn K (.ref C) f = some none
  xf : XfC K C
  ini : ∃ fI fd ps, PySem.W.findIn K (.ref C) "__init__" = some (some (.ref fI)) ∧ PySem.W.typeIn K (.ref fI) = some (.type "function") ∧
    FnOk P w K mg base (L2N.CX P w) 2 fI fd ps (spI K C fld) ∧ Binds K fd ps []

def erArgs (fld : Option Str) (v : Option V) : List V := match fld, v with
  | some _, some v => [v]
  | _, _ => []
theorem del_upd_none {H : Hp} {a : Addr} {o : HO} (hn : H a = none) : del (upd H a o) a = H := by
  funext b
  by_cases hb : b = a
  · subst hb; rw [del_same, hn]
  · rw [del_ne hb, upd_ne hb]

section
variable {X : Cx} {C : Addr} {fld : Option Str}
theorem mk_val {pins : List (Addr × Obj)} {σ : L2.St} {H : Hp} {s : Shared} {Q : XK} {us : List Value} {vs : List V} (T : ErrC X.prog X.w X.K X.mg X.base C fld) (hr : Room 3 X.A) (I : Inv X pins σ H s) (r : Vals vs us)
    (q : match fld with
      | none => vs = [] ∧ Q (.ref C) none H
      | some f => ∃ v, vs = [v] ∧ ∀ d, H d = none → Q (.ref C) (some d) (upd H d (.xd [(f, v)]))) :
    wpAny (model X.prog X.w) X.A (PySem.call (.ref C) us) (L2N.MkP X pins σ Q) X.xe s := by
  obtain ⟨fI, fd, ps, iC, tI, F1, hb⟩ := T.ini
  obtain ⟨nm, qn, N, bs, bm, sn, sub, ab, col, dd, k0, k1, k2, k3, k5, hC, hbm⟩ := T.oex.cls
  obtain ⟨hp, g, dr, tk, os⟩ := s
  have hsz : hp.objs.size ≤ hp.objs.size + 1 := Nat.le_succ _
  have hn : H (hp.objs.size + 1) = none := I.hok.fresh hsz
  have kk : ∀ b o, hp.get? b = some o → ((hp.push (PySem.W.kdv_tup us)).push (PySem.HandSPX.excO C hp.objs.size)).get? b = some o := fun b o e => Heap.get?_push_of_some _ (Heap.get?_push_of_some _ e)
  have hget : ((hp.push (PySem.W.kdv_tup us)).push (PySem.HandSPX.excO C hp.objs.size)).get? (hp.objs.size + 1) = some (PySem.HandSPX.excO C hp.objs.size) := by heap_get
  generalize ha : hp.objs.size + 1 = a at *
  have I2 : Inv X pins σ (upd H a (exo a C none)) ⟨(hp.push (PySem.W.kdv_tup us)).push (PySem.HandSPX.excO C hp.objs.size), g, dr, tk, os⟩ :=
    I.laid (t' := tk) (a := a) (o := exo a C none) (h' := (hp.push (PySem.W.kdv_tup us)).push (PySem.HandSPX.excO C hp.objs.size)) kk hsz (exo_ok hget)
  -- the promise of __init__, and what its end gives
  have hq : spI X.K C fld (V.ref a :: vs) (upd H a (exo a C none)) (fun v H2 => v = .non ∧ (match fld with
      | none => H2 = upd H a (exo a C none)
      | some f => ∃ v d, H d = none ∧ d ≠ a ∧ vs = [v] ∧ H2 = upd (upd (upd H a (exo a C none)) d (exd d [(f, v)])) a (exo a C (some d)))) (fun _ _ _ => False) := by
    refine ⟨a, T.oex, upd_same, ?_⟩
    cases fld with
    | none =>
      obtain ⟨rfl, _⟩ := q
      exact ⟨rfl, rfl, rfl⟩
    | some f =>
      obtain ⟨v, rfl, _⟩ := q
      refine ⟨v, rfl, T.nof f rfl, fun dx n ne => ⟨rfl, v, dx, ?_, ne, rfl, rfl⟩⟩
      rw [upd_ne ne] at n
      exact n
  have r2 : Vals (V.ref a :: vs) (Value.ref a :: us) := .cons rfl r
  have hl : (Value.ref a :: us ++ []).length = ps.length := by
    have e := r2.length
    rw [F1.len _ _ _ _ hq] at e
    rw [List.append_nil]
    exact e.symm
  have hvs : vs.length ≤ 1 := by
    cases fld with
    | none => obtain ⟨rfl, _⟩ := q; simp
    | some f => obtain ⟨v, rfl, _⟩ := q; simp
  have hus : us.length ≤ sizeLine := by
    rw [← Paired.length r, sizeLine_eq]
    omega
  have b2 := hb _ (Value.ref a :: us) I2.kIn hl
  rw [List.append_nil] at b2
  have hcall := PySem.HandSPX.call_own (prog := X.prog) (w := X.w) (A := X.A) (h := hp) (g := g) (d := dr) (t := tk) (os := os) (R := fun r s' => match r with
      | .ok (.ret u) => L2N.MkP X pins σ Q u s'
      | .ok _ => False
      | .error e => X.xe e s') (rest := us) F.excBase_ValueError (fun Y => PySem.HandSPX.refsVE_contains Y bm hbm) (I.kIn _ _ hC) (PySem.W.looks_findIn I.kIn iC) (fun self => PySem.W.bind_fn I.kIn self tI) hus
  rw [ha] at hcall
  refine wpAny_call (codeAny_mono (hcall (codeAny_mono (F1.run _ X.stack _ _ ⟨Value.ref a :: us, []⟩ (Value.ref a :: us) _ _ (fun _ _ _ => False) (hr.make C us []) (I2.env0.make C us []) b2 r2 hq) fun r s' hq' => ?_)) fun r s' z => ?_)
  · cases r with
    | error er =>
      obtain ⟨_, _, _, _, _, _, _, _, _, _, _, _, z⟩ := hq'
      exact z.elim
    | ok fl =>
      cases fl with
      | ret u =>
        obtain ⟨v, H2, os2, bare2, un2, hok2, rv, ev, q2⟩ := hq'
        subst ev
        obtain ⟨h2, g2, d2, t2, os'⟩ := s'
        refine ⟨rv, ?_⟩
        cases fld with
        | some f =>
          obtain ⟨v, d, hd1, hda, rfl, rfl⟩ := q2
          obtain ⟨v', e', qq⟩ := q
          cases e'
          have ea : (upd (upd (upd H a (exo a C none)) d (exd d [(f, v)])) a (exo a C (some d))) a = some (exo a C (some d)) := upd_same
          have ed : (upd (upd (upd H a (exo a C none)) d (exd d [(f, v)])) a (exo a C (some d))) d = some (exd d [(f, v)]) := by
            rw [upd_ne hda]; exact upd_same
          obtain ⟨t0, G, J, kG, ge, hoe, na⟩ := mk_end0 (d2 := d2) (t2 := t2) I hsz kk un2 hok2 os2 bare2 ea ed hd1
          have eH : upd (del (upd (upd (upd H a (exo a C none)) d (exd d [(f, v)])) a (exo a C (some d))) a) d (.xd [(f, v)]) = upd H d (.xd [(f, v)]) := by
            funext b
            by_cases hbd : b = d
            · subst hbd; rw [upd_same, upd_same]
            · rw [upd_ne hbd, upd_ne hbd]
              by_cases hba : b = a
              · subst hba; rw [del_same, hn]
              · rw [del_ne hba, upd_ne hba, upd_ne hbd, upd_ne hba]
          rw [eH] at J na
          exact ⟨a, _, _, ⟨G, g2, d2, t2, os'⟩, _, .ref C, some d, rfl, J, kG, ge, hoe, ⟨rfl, rfl, fun vs hv => by cases hv; rfl⟩, rfl, rfl, na, rfl, bare2, raises_own T.oex.exC T.oex.tyC, qq d hd1⟩
        | none =>
          subst q2
          obtain ⟨rfl, qq⟩ := q
          obtain ⟨t0, hoe⟩ := exo_at hok2 (upd_same (H := H) (a := a) (o := exo a C none))
          obtain ⟨G, g1', g2'⟩ := restrict h2 fun b => decide (b ≠ a)
          have gk : ∀ b, b ≠ a → G.get? b = h2.get? b := fun b hb => g1' b (decide_eq_true hb)
          have ge : G.get? a = none := g2' a (by simp)
          have nha : ∀ {b : Addr} {o : Obj}, hp.get? b = some o → b ≠ a := fun {b o} z => Nat.ne_of_lt (Nat.lt_of_lt_of_le (Heap.lt_size z) hsz)
          have U : Un (frs X.stack) [] H H hp G := {
            keep := fun b o z n hf hx => by
              rw [gk b (nha z)]
              exact un2.keep b o (kk b o z) (by rw [upd_ne (nha z)]; exact n) hf hx
            slot := fun b o z n hf hx => by
              rw [gk b (nha z)]
              exact un2.slot b o (kk b o z) (by rw [upd_ne (nha z)]; exact n) hf hx
            free := fun b o z n hx => n
            there := fun b o z hx => by
              rw [gk b (nha z)]
              exact un2.there b o (kk b o z) hx
            tups := fun b xs z => z
            frzs := fun b o v z => z
            tbls := fun b ps z => ⟨#[], by rw [z]; simp⟩ }
          have hok3 : HOk X.prog X.w H G := fun b o z => by
            have hba : b ≠ a := fun e => by rw [e, hn] at z; cases z
            have z2 : (upd H a (exo a C none)) b = some o := by rw [upd_ne hba]; exact z
            refine (hok2 b o z2).stay (fun c v hc y => ?_) (fun c hc => ?_) (fun c xs hc => ?_)
            · have hca : c ≠ a := by
                rcases hc with hc | hc
                · rw [hc]; exact hba
                · intro e
                  rw [e, upd_same] at hc
                  exact exo_own (Option.some.inj hc)
              rw [gk c hca]
              exact y
            · have hca : c ≠ a := fun e => by rw [e, upd_same] at hc; exact exo_own (Option.some.inj hc)
              rw [upd_ne hca] at hc
              exact hc
            · have hca : c ≠ a := fun e => by rw [e, upd_same] at hc; exact exo_tup (Option.some.inj hc)
              rw [upd_ne hca] at hc
              exact hc
          have J : Inv X pins σ H ⟨G, g2, d2, t2, os'⟩ := I.call' (ch := []) os2 U hok3 bare2 (fun b z => absurd z (by simp))
          refine ⟨a, _, _, ⟨G, g2, d2, t2, os'⟩, _, .ref C, none, rfl, J, fun b o z => ?_, ge, hoe, ⟨rfl, rfl, fun vs hv => by cases hv; rfl⟩, rfl, rfl, hn, rfl, bare2, raises_own T.oex.exC T.oex.tyC, qq⟩
          by_cases hba : b = a
          · have z' : G.get? b = some o := z
            rw [hba, ge] at z'
            cases z'
          · exact (gk b hba).symm.trans z
      | next => exact False.elim hq'
      | brk => exact False.elim hq'
      | cont => exact False.elim hq'
  · cases r with
    | error e => exact z
    | ok fl =>
      cases fl with
      | ret u => exact z
      | next => exact z.elim
      | brk => exact z.elim
      | cont => exact z.elim
end
/-! ### arguments without a star -/
def bare1 : Expr → Bool
  | .Starred .. => false
  | _ => true
theorem star_cons {e : Expr} {es : List Expr} {env : Env} (h : bare1 e = true) : starEach (e :: es) env = (false, eval e env) :: starEach es env := by
  cases e <;> first | rfl | cases h
theorem star_none {env : Env} {pos : Pos} : ∀ {es : List Expr}, es.all bare1 = true → (backTo pos (starEach es env)).any (·.1) = false
  | [], _ => rfl
  | [e], h => by
    simp only [List.all_cons, Bool.and_eq_true] at h
    rw [star_cons h.1]
    rfl
  | e :: e' :: es, h => by
    simp only [List.all_cons, Bool.and_eq_true] at h
    have ih := star_none (env := env) (pos := pos) (es := e' :: es) (by simp [h.2])
    rw [star_cons h.1]
    exact ih
section
variable {X : Cx} {C : Addr} {fld : Option Str}
/-- raise C(..) -/
theorem ps_err {x : Str} {e : Expr} {es : List Expr} {t : TA} {W : WX} {p pos pos2 : Pos} (T : ErrC X.prog X.w X.K X.mg X.base C fld) (hc : X.calm = true) (hr : Room 3 X.A) (tk : L2N.Takes X W) (hg : Gl X x) (hm : X.mg x = some (.ref C)) (hdb : (x == ("__debug__" : Str)) = false) (ha : PA X (e :: es) t)
    (hs : (e :: es).all bare1 = true) :
    PS X (.Raise (some (.Call (.Name x p) (e :: es) [] pos)) none pos2) (fun _ σ H => t σ H fun vs H1 => match fld with
      | none => vs = [] ∧ W (.ref C) none σ H1
      | some f => ∃ v, vs = [v] ∧ ∀ d, H1 d = none → W (.ref C) (some d) σ (upd H1 d (.xd [(f, v)]))) := by
  refine L2N.ps_raise hc tk (t := fun σ H Q => t σ H fun vs H1 => match fld with
      | none => vs = [] ∧ Q (.ref C) none H1
      | some f => ∃ v, vs = [v] ∧ ∀ d, H1 d = none → Q (.ref C) (some d) (upd H1 d (.xd [(f, v)]))) ?_
  intro pins s σ H Q I h
  refine wpAny_Call_Name_kw (ld_glob I hg hm ?_ hdb)
  simp only [List.all_cons, Bool.and_eq_true] at hs
  refine PySem.W.callWith_K (h₀ := X.base) I.ok.mod.kin T.oex.kC (thn (ha.run pos pins s σ H _ I h) fun us s1 ⟨vs, H1, I1, r1, q1⟩ => ⟨I1.kIn, ?_⟩) (star_cons hs.1) (star_none hs.2)
  exact mk_val T hr I1 r1 q1
theorem ps_err0 {x : Str} {W : WX} {p pos pos2 : Pos} (T : ErrC X.prog X.w X.K X.mg X.base C none) (hc : X.calm = true) (hr : Room 3 X.A) (tk : L2N.Takes X W) (hg : Gl X x) (hm : X.mg x = some (.ref C)) (hdb : (x == ("__debug__" : Str)) = false) :
    PS X (.Raise (some (.Call (.Name x p) [] [] pos)) none pos2) (fun _ σ H => W (.ref C) none σ H) := by
  refine L2N.ps_raise hc tk (t := fun σ H Q => Q (.ref C) none H) ?_
  intro pins s σ H Q I h
  refine wpAny_Call_Name_kw (ld_glob I hg hm ?_ hdb)
  exact PySem.W.callWith_K0 I.kIn T.oex.kC (mk_val (vs := []) T hr I .nil ⟨rfl, h⟩)
end
end EvM
set_option linter.all false
set_option maxRecDepth 100000
set_option maxHeartbeats 4000000
/-! EvM6: try with several clauses, each with a name of its own or without. -/
namespace EvM
open PySem PySem.Spec PyProof.Rows L2 HotX L2H

abbrev Cl := Value × Option Nat × (Addr → Value → Option Addr → TS)
/-- the ends behind a suite whose name's slot is i -/
def outOf (i : Option Nat) (D : Ends) : Ends := match i with
  | none => D
  | some i => { nx := fun σ' H' => D.nx (σ'.set i none) H', rt := D.rt, bk := fun σ' H' => D.bk (σ'.set i none) H', ct := fun σ' H' => D.ct (σ'.set i none) H' }
def inTo (i : Option Nat) (a : Addr) (σ : L2.St) : L2.St := match i with
  | none => σ
  | some i => σ.set i (some (.ref a))
def wM (K : PySem.W.Frag) (Wout : WX) (D : Ends) : List Cl → WX
  | [] => Wout
  | (c, i, ts) :: r => fun cls d σ H => ∃ b, PySem.W.exmOne K cls c = some b ∧ (b = true → ∀ a, H a = none → ts a cls d (outOf i D) (inTo i a σ) H) ∧ (b = false → wM K Wout D r cls d σ H)
inductive HdM (X : Cx) : List ExceptHandler → List Cl → Prop
  | nil : HdM X [] []
  | cons {x : Str} {nm : Option Str} {c : Value} {i : Option Nat} {ts : Addr → Value → Option Addr → TS} {b₀ : Stmt} {suite : List Stmt} {np pos' : Pos} {hds : List ExceptHandler} {l : List Cl} (hc : Names X x c)
      (hn : (nm = none ∧ i = none) ∨ ∃ n j, nm = some n ∧ i = some j ∧ X.N[j]? = some n ∧ X.env.kindOf n = some .local)
      (hsu : ∀ (a : Addr) (oe : Obj) (cls : Value) (d : Option Addr) (pn : List (Addr × Obj)), L2N.Zn cls d oe → (∃ vs, oe.data = .fields vs) → PSs (X.suite a ((a, oe) :: pn)) (b₀ :: suite) (ts a cls d)) (r : HdM X hds l) :
      HdM X (.ExceptHandler (some (.Name x np)) nm (b₀ :: suite) pos' :: hds) ((c, i, ts) :: l)
section
variable {X : Cx} {body : List Stmt} {h₀ : ExceptHandler} {hds : List ExceptHandler} {l : List Cl} {pos : Pos} {tb : WX → TS} {Wout : WX}
theorem ps_tryM (hs : X.stack = X.env :: X.outer) (hf : X.env.frame = some X.env.locals) (hN : X.N.Nodup) (tk : L2N.Takes X Wout)
    (hb : ∀ (W : WX) (pn : List (Addr × Obj)) (xe : Value → Shared → Prop), (∀ q ∈ X.pn, q ∈ pn) → L2N.Takes (X.tr pn xe) W → PassesOwn (model X.prog X.w) X.A X.env xe → PSs (X.tr pn xe) body (tb W))
    (hh : HdM X (h₀ :: hds) l) : PS X (.Try body (h₀ :: hds) [] [] pos) (fun D σ H => tb (wM X.K Wout D l) D σ H) := by
  refine ⟨fun pins s σ H D I h => ?_⟩
  have ok := I.ok
  have hfr : X.A.frames = some (X.env :: X.outer) := by rw [ok.frames, hs]
  refine wpAny_Try_except ?_
  refine wpAny_mono ((hb (wM X.K Wout D l) (X.pn ++ pins) (fun e s₁ => wpAny (model X.prog X.w) X.A (noteFrame e X.env) (fun _ s₂ => wpAny (model X.prog X.w) X.A (setFlight e none) (fun _ s₃ =>
    wpAny (model X.prog X.w) X.A (handleBy e X.env (h₀ :: hds)) (SP X pins D) X.xe s₃) X.xe s₂) X.xe s₁) (fun q hq => List.mem_append_left _ hq) (fun u s' xx => ?_) PassesOwn.looking).run [] s σ H D (I.toTry _) h) (fun f s1 hsp => ?_) (fun e s1 he => he)
  · obtain ⟨a, B, sI, pins', σ', H', cls, d, rfl, J', nb, up, sky, na, os, ag, w⟩ := xx
    have J : Inv X pins σ' H' sI := J'.ofTry ok
    have sky' : Sky B (X.env :: X.outer) a (L2N.Zn cls d) X.env.locals s'.heap := by rw [← hs]; exact sky
    show wpAny (model X.prog X.w) X.A (noteFrame (.ref a) X.env) _ _ _
    refine L2N.Sky.land L2N.Zn.steady hfr hf sky' fun h3 fl3 up3 => ?_
    have J3 : Inv X pins σ' H' { s' with heap := h3 } := J.landed nb fl3.1 (up.trans up3) os ag
    obtain ⟨oe3, vs3, he3, hz3, hd3⟩ := fl3.there
    have notFr : ∀ {h : Heap} {o : Obj} {vs : Array Value}, h.FunFrames B (X.env :: X.outer) → h.get? a = some o → o.data = .fields vs → a ∉ frs (X.env :: X.outer) := fun {h o vs} ff e dd hm => by
      obtain ⟨_, o', e', hnf⟩ := ff.mem hm
      rw [e] at e'; cases e'
      exact hnf _ dd
    have nfr := notFr fl3.2.2.1 he3 hd3
    have nL : a ≠ X.env.locals := fun z => nfr (List.mem_filterMap.mpr ⟨X.env, List.mem_cons_self, by rw [hf, z]⟩)
    have nF : a ∉ X.fs := fun hm => by
      obtain ⟨e, he, q⟩ := List.mem_filterMap.mp hm
      exact nfr (List.mem_filterMap.mpr ⟨e, List.mem_cons_of_mem _ he, q⟩)
    have S3 := J3.suite he3 hd3 na nL nF
    have go : ∀ {hds' : List ExceptHandler} {l' : List Cl}, HdM X hds' l' → wM X.K Wout D l' cls d σ' H' →
        wpAny (model X.prog X.w) X.A (handleBy (.ref a) X.env hds') (SP X pins D) X.xe { s' with heap := h3 } := by
      intro hds' l' hk
      induction hk with
      | nil =>
        intro w
        refine wpAny_handleBy_nil ?_
        obtain ⟨k1, k2, k3, oe, vs, T, oT, ts', he, hz, hd, h1, hr⟩ := id fl3
        unfold PySem.passOn
        refine wpAny_bind (wpAny_field he hd h1 ?_)
        rw [if_neg (show ¬ ((Value.ref T == Value.none) = true) from by simp)]
        have fin : wpAny (model X.prog X.w) X.A (setFlight (.ref a) X.env.frame) (fun _ s4 => wpAny (model X.prog X.w) X.A (throw (.ref a) : Sem Flow) (SP X pins D) X.xe s4) X.xe { s' with heap := h3 } := by
          rw [hf]
          refine HandSPX.setFlight_upZ fl3 fun h4 hh4 up4 => wpAny_throw (tk _ _ ?_)
          exact ⟨a, B, sI, pins, σ', H', cls, d, rfl, J, nb, (up.trans up3).trans up4, .inr (.inr (by rw [hs]; exact hh4)), na, os, ag, w⟩
        first
          | exact wpAny_bind (wpAny_pure (wpAny_bind fin))
          | exact wpAny_bind fin
      | @cons x nm c i ts b₀ suite np pos' hds2 l2 hc hn hsu r ih =>
        intro w
        obtain ⟨b, hb1, hyes, hno⟩ := w
        refine wpAny_handleBy_cons (codeAny_handlers_test ?_) (by intro q; cases q)
        have LT : PySem.W.Looks (model X.prog X.w) h3 (typeOf (.ref a)) cls := fun A Q E s k q => wpAny_typeOf_ref (k _ _ he3) (by rw [hz3.1]; exact q)
        have LM := PySem.W.exm_one (M := model X.prog X.w) (J3.kIn) LT hb1
        have test : ∀ {Q : Value → Shared → Prop} {E : Value → Shared → Prop}, Q c { s' with heap := h3 } → wpAny (model X.prog X.w) (X.A.mark (some (.ref a))) (eval (.Name x np) X.env) Q E { s' with heap := h3 } := fun {Q E} q => by
          obtain ⟨hg, hdbg, hm | ⟨hm, hv, hnn⟩⟩ := hc
          · exact ld_glob (X := X.suite a ((a, oe3) :: (X.pn ++ pins))) S3 hg hm q hdbg
          · exact ld_blt (X := X.suite a ((a, oe3) :: (X.pn ++ pins))) S3 hg hm hv q hnn hdbg
        refine test (LM.here ?_)
        cases b with
        | true =>
          rcases hn with ⟨rfl, rfl⟩ | ⟨n, j, rfl, rfl, hj, hln⟩
          · refine codeAny_handlers_suite ?_
            refine HandSPX.lands_againZ fl3 fun h4 fl4 up4 => ?_
            have J4 : Inv X pins σ' H' { s' with heap := h4 } := J.landed nb fl4.1 ((up.trans up3).trans up4) os ag
            obtain ⟨oe4, vs4, he4, hz4, hd4⟩ := fl4.there
            have S4 := J4.suite he4 hd4 na nL nF
            refine wpAny_mono ((hsu a oe4 cls d (X.pn ++ pins) hz4 ⟨_, hd4⟩).run [] _ _ H' _ S4 (hyes rfl a na)) (fun f s6 hsp => ?_) (fun _ _ z => False.elim z)
            cases f with
            | next =>
              obtain ⟨σ6, H6, S6, q6⟩ := hsp
              exact ⟨_, _, S6.unsuite ok, q6⟩
            | brk =>
              obtain ⟨σ6, H6, S6, q6⟩ := hsp
              exact ⟨_, _, S6.unsuite ok, q6⟩
            | cont =>
              obtain ⟨σ6, H6, S6, q6⟩ := hsp
              exact ⟨_, _, S6.unsuite ok, q6⟩
            | ret u =>
              obtain ⟨v6, σ6, H6, S6, r6, q6⟩ := hsp
              exact ⟨_, _, _, S6.unsuite ok, r6, q6⟩
          · refine codeAny_handlers_suite_as ?_
            refine HandSPX.lands_againZ fl3 fun h4 fl4 up4 => ?_
            have J4 : Inv X pins σ' H' { s' with heap := h4 } := J.landed nb fl4.1 ((up.trans up3).trans up4) os ag
            obtain ⟨oe4, vs4, he4, hz4, hd4⟩ := fl4.there
            have S4 := J4.suite he4 hd4 na nL nF
            refine store_ok (X := X.suite a ((a, oe4) :: (X.pn ++ pins))) (v := .ref a) S4 hN hj (.inl hln) rfl (fun s5 S5 => ?_) (.inr hln)
            refine wpAny_mono ((hsu a oe4 cls d (X.pn ++ pins) hz4 ⟨_, hd4⟩).run [] s5 _ H' _ S5 (hyes rfl a na)) (fun f s6 hsp => ?_) (fun _ _ z => False.elim z)
            have end_ : ∀ {σ6 : L2.St} {H6 : Hp} {Q : Shared → Prop}, Inv (X.suite a ((a, oe4) :: (X.pn ++ pins))) [] σ6 H6 s6 → (∀ s7, Inv X pins (σ6.set j none) H6 s7 → Q s7) →
                wpAny (model X.prog X.w) X.A (do bindName X.env n .none; unbindBehindTheSuite X.env n pos') (fun _ s7 => Q s7) X.xe s6 := fun {σ6 H6 Q} S6 hq => gone_ok (S6.unsuite ok) hN hj hln hq
            cases f with
            | next =>
              obtain ⟨σ6, H6, S6, q6⟩ := hsp
              exact end_ S6 fun s7 J7 => ⟨_, _, J7, q6⟩
            | brk =>
              obtain ⟨σ6, H6, S6, q6⟩ := hsp
              exact end_ S6 fun s7 J7 => ⟨_, _, J7, q6⟩
            | cont =>
              obtain ⟨σ6, H6, S6, q6⟩ := hsp
              exact end_ S6 fun s7 J7 => ⟨_, _, J7, q6⟩
            | ret u =>
              obtain ⟨v6, σ6, H6, S6, r6, q6⟩ := hsp
              exact end_ S6 fun s7 J7 => ⟨_, _, _, J7, r6, q6⟩
        | false =>
          show wpAny _ X.A (handleBy (.ref a) X.env hds2) _ _ _
          exact ih (hno rfl)
    exact go hh w
  · cases f with
    | next =>
      obtain ⟨σ', H', J', q⟩ := hsp
      exact wpAny_execs_nil ⟨σ', H', J'.ofTry ok, q⟩
    | brk =>
      obtain ⟨σ', H', J', q⟩ := hsp
      exact ⟨σ', H', J'.ofTry ok, q⟩
    | cont =>
      obtain ⟨σ', H', J', q⟩ := hsp
      exact ⟨σ', H', J'.ofTry ok, q⟩
    | ret u =>
      obtain ⟨v, σ', H', J', r, q⟩ := hsp
      exact ⟨v, σ', H', J'.ofTry ok, r, q⟩
end
/-- within a suite the caught exception is the handled one -/
theorem mild_suite {X : Cx} {a : Addr} {oe : Obj} {cls : Value} {d : Option Addr} {pn : List (Addr × Obj)} (hz : L2N.Zn cls d oe) (hf : ∃ vs, oe.data = .fields vs) : Mild (X.suite a ((a, oe) :: pn)) := by
  obtain ⟨vs, hd⟩ := hf
  exact .inr ⟨(a, oe), ⟨rfl, vs, hd, hz.2.2 vs hd⟩, List.mem_cons_self⟩
end EvM
set_option linter.all false
set_option maxRecDepth 100000
set_option maxHeartbeats 4000000
/-! EvM7: how arguments come to the parameters of a plain def. -/
namespace EvM
open PySem PySem.Spec PyProof.Rows L2

/-- a def with plain parameters of these names -/
structure PlainP (a : Arguments) (ns : List Str) : Prop where
  po : a.posonlyargs = []
  ar : a.args.map (·.arg) = ns
  va : a.vararg = none
  ko : a.kwonlyargs = []
  kw : a.kwarg = none
def plainB (a : Arguments) (ns : List Str) : Bool := a.posonlyargs.isEmpty && decide (a.args.map (·.arg) = ns) && a.vararg.isNone && a.kwonlyargs.isEmpty && a.kwarg.isNone
theorem plainB_ok {a : Arguments} {ns : List Str} (h : plainB a ns = true) : PlainP a ns := by
  unfold plainB at h
  simp only [Bool.and_eq_true, decide_eq_true_eq, List.isEmpty_iff, Option.isNone_iff_eq_none] at h
  obtain ⟨⟨⟨⟨h1, h2⟩, h3⟩, h4⟩, h5⟩ := h
  exact ⟨h1, h2, h3, h4, h5⟩

theorem lookup_zip : ∀ {ns : List Str} {ws : List Value} {i : Nat} {n : Str} {w : Value}, ns.Nodup → ns[i]? = some n → ws[i]? = some w → (ns.zip ws).lookup n = some w
  | [], _, _, _, _, _, h, _ => by simp at h
  | _ :: _, [], _, _, _, _, _, h => by simp at h
  | a :: ns, b :: ws, 0, n, w, nd, h1, h2 => by
    simp only [List.getElem?_cons_zero, Option.some.injEq] at h1 h2
    subst h1 h2
    simp [List.lookup]
  | a :: ns, b :: ws, i + 1, n, w, nd, h1, h2 => by
    simp only [List.getElem?_cons_succ] at h1 h2
    obtain ⟨na, nd'⟩ := List.nodup_cons.mp nd
    have hne : (n == a) = false := by
      rw [beq_eq_false_iff_ne]
      rintro rfl
      exact na (List.mem_of_getElem? h1)
    simp only [List.zip_cons_cons, List.lookup, hne]
    exact lookup_zip nd' h1 h2
/-- all parameters found: the pairs in the parameters' order -/
theorem found_all (f : Str → Option Value) : ∀ {ns : List Str} {ws : List Value}, ns.length = ws.length → (∀ (i : Nat) n w, ns[i]? = some n → ws[i]? = some w → f n = some w) →
    (ns.filter fun n => (f n).isNone) = [] ∧ (ns.filterMap fun n => (f n).map (n, ·)) = ns.zip ws
  | [], [], _, _ => ⟨rfl, rfl⟩
  | [], _ :: _, h, _ => by simp at h
  | _ :: _, [], h, _ => by simp at h
  | n :: ns, w :: ws, hl, h => by
    have e := h 0 n w rfl rfl
    obtain ⟨i1, i2⟩ := found_all f (ns := ns) (ws := ws) (by simpa using hl) fun i n w h1 h2 => h (i + 1) n w h1 h2
    refine ⟨?_, ?_⟩
    · rw [List.filter_cons, if_neg (by rw [e]; simp)]
      exact i1
    · rw [List.filterMap_cons, e]
      simp only [Option.map_some, List.zip_cons_cons]
      rw [i2]
theorem kw_loop {normal : List Str} {B : (Str × Value) → List (Str × Value) × List (Str × Value) → Sem (ForInStep (List (Str × Value) × List (Str × Value)))}
    (hB : ∀ k v slots extra, normal.contains k = true → slots.lookup k = none → B (k, v) (slots, extra) = pure (.yield (slots ++ [(k, v)], extra))) :
    ∀ {kws : List (Str × Value)} {slots extra : List (Str × Value)}, (∀ p ∈ kws, normal.contains p.1 = true) → (kws.map (·.1)).Nodup → (∀ p ∈ kws, slots.lookup p.1 = none) →
      forIn kws (slots, extra) B = pure (slots ++ kws, extra)
  | [], slots, extra, _, _, _ => by simp
  | (k, v) :: kws, slots, extra, h1, h2, h3 => by
    simp only [List.map_cons, List.nodup_cons] at h2
    rw [List.forIn_cons, hB k v slots extra (h1 _ List.mem_cons_self) (h3 _ List.mem_cons_self), pure_bind]
    show forIn kws (slots ++ [(k, v)], extra) B = _
    rw [kw_loop hB (fun p hp => h1 p (List.mem_cons_of_mem _ hp)) h2.2 (fun p hp => ?_)]
    · simp
    · have hne : (p.1 == k) = false := by
        rw [beq_eq_false_iff_ne]
        rintro rfl
        exact h2.1 (List.mem_map.mpr ⟨p, hp, rfl⟩)
      rw [List.lookup_append, h3 p (List.mem_cons_of_mem _ hp)]
      simp [List.lookup, hne]
theorem bind_plain {fd : FuncData} {ns : List Str} (hp : PlainP fd.params ns) (nd : ns.Nodup) (hd : fd.defaults = .none) {us : List Value} {kws : List (Str × Value)} {ws : List Value} (hl : ns.length = ws.length)
    (h : (us = ws ∧ kws = []) ∨ (us = [] ∧ (∀ p ∈ kws, ns.contains p.1 = true) ∧ (kws.map (·.1)).Nodup ∧ ∀ (i : Nat) n w, ns[i]? = some n → ws[i]? = some w → kws.lookup n = some w)) :
    bindArgs fd ⟨us, kws⟩ = pure (ns.zip ws) := by
  obtain ⟨h1, h2, h3, h4, h5⟩ := hp
  have hloop : ∀ B : (Str × Value) → List (Str × Value) × List (Str × Value) → Sem (ForInStep (List (Str × Value) × List (Str × Value))),
      (∀ k v slots extra, ns.contains k = true → slots.lookup k = none → B (k, v) (slots, extra) = pure (.yield (slots ++ [(k, v)], extra))) →
      ∃ sl, (∀ (i : Nat) n w, ns[i]? = some n → ws[i]? = some w → sl.lookup n = some w) ∧ forIn kws (ns.zip us, []) B = pure (sl, []) := fun B hB => by
    rcases h with ⟨rfl, rfl⟩ | ⟨rfl, k1, k2, k3⟩
    · exact ⟨ns.zip us, fun i n w a b => lookup_zip nd a b, by simp⟩
    · refine ⟨kws, k3, ?_⟩
      have z : ns.zip ([] : List Value) = [] := by cases ns <;> rfl
      rw [z, kw_loop hB k1 k2 (fun p _ => rfl)]
      simp
  have hle : ¬ us.length > ns.length := by
    rcases h with ⟨rfl, rfl⟩ | ⟨rfl, _⟩
    · omega
    · simp
  unfold bindArgs
  simp only [h1, h2, h3, h4, h5, hd, List.map_nil, List.nil_append, List.append_nil, Option.isNone_none, Bool.and_true, decide_eq_true_eq]
  have step : ∀ {β : Type} (B : (Str × Value) → List (Str × Value) × List (Str × Value) → Sem (ForInStep (List (Str × Value) × List (Str × Value)))) (k : List (Str × Value) × List (Str × Value) → Sem β) (r : Sem β),
      (∀ k v slots extra, ns.contains k = true → slots.lookup k = none → B (k, v) (slots, extra) = pure (.yield (slots ++ [(k, v)], extra))) →
      (∀ sl, (∀ (i : Nat) n w, ns[i]? = some n → ws[i]? = some w → sl.lookup n = some w) → k (sl, []) = r) → (forIn kws (ns.zip us, []) B >>= k) = r := fun B k r hB hk => by
    obtain ⟨sl, h1, h2⟩ := hloop B hB
    rw [h2, pure_bind]
    exact hk sl h1
  refine step _ _ _ (fun k v slots extra hc hn => ?_) (fun sl hsl => ?_)
  · have hc' : (ns.contains k || ([] : List Str).contains k) = true := by rw [hc]; rfl
    simp only [hc', hn, if_true]
    rfl
  · obtain ⟨f1, f2⟩ := found_all (fun n => sl.lookup n) hl hsl
    have z0 : ((seqItems? .none : Sem (Option (Array Value)))) = pure none := rfl
    simp only [pure_bind, z0, Option.getD_none, List.drop_nil, List.length_nil, Nat.sub_zero, Nat.zero_sub, List.drop_length, List.zip_nil_left, List.zip_nil_right, List.take_length, f1, f2, hle, if_false, List.isEmpty_nil, Bool.not_true, Bool.false_eq_true, List.forIn_nil]
end EvM
set_option linter.all false
set_option maxRecDepth 100000
set_option maxHeartbeats 4000000
/-! EvB1: values and memory against the tracked heap. -/
namespace EvB
open PySem PySem.Spec PyProof.Rows L2
open Ev (D Ob Mem Rs Lc Ky)

/-- what is fixed for a law: the module's part, where its defs and error classes stand -/
structure Tb where
  P : Program
  w : World
  K : PySem.W.Frag
  mg : Str → Option Value
  pr : Ev.Prog
  fa : Nat → Addr
  ca : Nat → Addr
  fnm : Nat → Str

mutual
/-- a value: φ tells where the memory's things stand, n how many there are -/
def RD (T : Tb) (φ : Nat → Addr) (n : Nat) (H : Hp) : D → V → Prop
  | .non, v => v = .non
  | .bl b, v => v = .bl b
  | .int i, v => v = .int i
  | .str s, v => v = .str s
  | .tup ds, v => ∃ p vs, v = .ref p ∧ SqT T.K H p vs ∧ RDs T φ n H ds vs
  | .obj a, v => a < n ∧ v = .ref (φ a)
  | .fn i, v => i < T.pr.fns.length ∧ v = .ref (T.fa i)
def RDs (T : Tb) (φ : Nat → Addr) (n : Nat) (H : Hp) : List D → List V → Prop
  | [], vs => vs = []
  | d :: ds, vs => ∃ v r, vs = v :: r ∧ RD T φ n H d v ∧ RDs T φ n H ds r
end
def RKs (T : Tb) (φ : Nat → Addr) (n : Nat) (H : Hp) (kvs : List (Ky × D)) (ws : List (Key × V)) : Prop := ws.map (·.1) = kvs.map (·.1) ∧ RDs T φ n H (kvs.map (·.2)) (ws.map (·.2))
/-- a thing of the memory, at its address -/
def RO (T : Tb) (φ : Nat → Addr) (n : Nat) (H : Hp) : Ob → Addr → Prop
  | .lst ds, a => ∃ vs, H a = some (.lst vs) ∧ RDs T φ n H ds vs
  | .fro ds, a => ∃ o vs, H a = some (.frz o (.lst vs)) ∧ RDs T φ n H ds vs
  | .dct kvs, a => ∃ ws, H a = some (.dK ws) ∧ RKs T φ n H kvs ws
  | .fdc kvs, a => ∃ o ws, H a = some (.frz o (.dK ws)) ∧ RKs T φ n H kvs ws
structure RM (T : Tb) (φ : Nat → Addr) (m : Mem) (H : Hp) : Prop where
  obj : ∀ i o, m[i]? = some o → RO T φ m.length H o (φ i)
  inj : ∀ i j, i < m.length → j < m.length → φ i = φ j → i = j
/-- from one state to a later one -/
structure Ext (φ : Nat → Addr) (n : Nat) (H : Hp) (φ' : Nat → Addr) (n' : Nat) (H' : Hp) : Prop where
  le : n ≤ n'
  same : ∀ i, i < n → φ' i = φ i
  new : ∀ i, n ≤ i → i < n' → H (φ' i) = none
  keep : ∀ b o, H b = some o → (∀ i, i < n → φ i ≠ b) → H' b = some o
  tr : ∀ b, H b ≠ none → H' b ≠ none
  frz : ∀ b o u, H b = some (.frz o u) → H' b = some (.frz o u)

section
variable {T : Tb} {φ φ' φ1 : Nat → Addr} {n n' n1 : Nat} {H H' H1 : Hp} {m m' : Mem}
theorem Ext.refl : Ext φ n H φ n H := ⟨Nat.le_refl _, fun _ _ => rfl, fun i h1 h2 => absurd h2 (by omega), fun _ _ h _ => h, fun _ h => h, fun _ _ _ h => h⟩
theorem Ext.trans (a : Ext φ n H φ1 n1 H1) (b : Ext φ1 n1 H1 φ' n' H') : Ext φ n H φ' n' H' where
  le := Nat.le_trans a.le b.le
  same := fun i h => (b.same i (Nat.lt_of_lt_of_le h a.le)).trans (a.same i h)
  new := fun i h1 h2 => by
    by_cases hi : i < n1
    · rw [b.same i hi]; exact a.new i h1 hi
    · have z := b.new i (by omega) h2
      cases q : H (φ' i) with
      | none => rfl
      | some o => exact absurd z (a.tr _ (by rw [q]; simp))
  keep := fun c o h hn => b.keep c o (a.keep c o h hn) fun i hi e => by
    by_cases hi' : i < n
    · rw [a.same i hi'] at e; exact hn i hi' e
    · have z := a.new i (by omega) hi
      rw [e, h] at z; cases z
  tr := fun c h => b.tr c (a.tr c h)
  frz := fun c o u h => b.frz c o u (a.frz c o u h)
/-- what a memory's thing is not -/
theorem RO.kind {o : Ob} {a : Addr} (r : RO T φ n H o a) : (∃ vs, H a = some (.lst vs)) ∨ (∃ u vs, H a = some (.frz u (.lst vs))) ∨ (∃ ws, H a = some (.dK ws)) ∨ ∃ u ws, H a = some (.frz u (.dK ws)) := by
  cases o with
  | lst ds => obtain ⟨vs, h, _⟩ := r; exact .inl ⟨vs, h⟩
  | fro ds => obtain ⟨o, vs, h, _⟩ := r; exact .inr (.inl ⟨o, vs, h⟩)
  | dct kvs => obtain ⟨ws, h, _⟩ := r; exact .inr (.inr (.inl ⟨ws, h⟩))
  | fdc kvs => obtain ⟨o, ws, h, _⟩ := r; exact .inr (.inr (.inr ⟨o, ws, h⟩))
theorem RM.at_ (r : RM T φ m H) {i : Nat} (h : i < m.length) : ∃ o, m[i]? = some o ∧ RO T φ m.length H o (φ i) := ⟨m[i], List.getElem?_eq_getElem h, r.obj i _ (List.getElem?_eq_getElem h)⟩
theorem RM.some_ (r : RM T φ m H) {i : Nat} (h : i < m.length) : H (φ i) ≠ none := by
  obtain ⟨o, _, q⟩ := r.at_ h
  rcases q.kind with ⟨vs, e⟩ | ⟨u, vs, e⟩ | ⟨ws, e⟩ | ⟨u, ws, e⟩ <;> rw [e] <;> simp
/-- a tracked thing of another make is not of the memory -/
theorem RM.off (r : RM T φ m H) {b : Addr} {u : HO} (h : H b = some u) (h1 : ∀ vs, u ≠ .lst vs) (h2 : ∀ o vs, u ≠ .frz o (.lst vs)) (h3 : ∀ ws, u ≠ .dK ws) (h4 : ∀ o ws, u ≠ .frz o (.dK ws)) : ∀ i, i < m.length → φ i ≠ b := fun i hi e => by
  obtain ⟨o, _, q⟩ := r.at_ hi
  rw [e] at q
  rcases q.kind with ⟨vs, z⟩ | ⟨u, vs, z⟩ | ⟨ws, z⟩ | ⟨u, ws, z⟩ <;> (rw [h] at z; cases z)
  · exact h1 _ rfl
  · exact h2 _ _ rfl
  · exact h3 _ rfl
  · exact h4 _ _ rfl
theorem RM.tup (r : RM T φ m H) (x : Ext φ m.length H φ' n' H') {p : Addr} {vs : List V} (h : SqT T.K H p vs) : SqT T.K H' p vs := by
  rcases h with (h | ⟨o, h⟩) | h
  · exact .inl (.inl (x.keep _ _ h (r.off h (by simp) (by simp) (by simp) (by simp))))
  · exact .inl (.inr ⟨o, x.keep _ _ h (r.off h (by simp) (by simp) (by simp) (by simp))⟩)
  · exact .inr h
mutual
theorem RD.mono (ht : ∀ p vs, SqT T.K H p vs → SqT T.K H' p vs) (hn : n ≤ n') (hs : ∀ i, i < n → φ' i = φ i) : ∀ {d : D} {v : V}, RD T φ n H d v → RD T φ' n' H' d v
  | .non, _, h => h
  | .bl _, _, h => h
  | .int _, _, h => h
  | .str _, _, h => h
  | .tup ds, _, h => by
    obtain ⟨p, vs, e, q, r⟩ := h
    exact ⟨p, vs, e, ht _ _ q, RDs.mono ht hn hs r⟩
  | .obj a, _, h => ⟨Nat.lt_of_lt_of_le h.1 hn, by rw [hs a h.1]; exact h.2⟩
  | .fn _, _, h => h
theorem RDs.mono (ht : ∀ p vs, SqT T.K H p vs → SqT T.K H' p vs) (hn : n ≤ n') (hs : ∀ i, i < n → φ' i = φ i) : ∀ {ds : List D} {vs : List V}, RDs T φ n H ds vs → RDs T φ' n' H' ds vs
  | [], _, h => h
  | d :: ds, _, h => by
    obtain ⟨v, r, e, h1, h2⟩ := h
    exact ⟨v, r, e, RD.mono ht hn hs h1, RDs.mono ht hn hs h2⟩
end
theorem RD.ext {d : D} {v : V} (h : RD T φ m.length H d v) (r : RM T φ m H) (x : Ext φ m.length H φ' n' H') : RD T φ' n' H' d v := h.mono (fun _ _ q => r.tup x q) x.le x.same
theorem RDs.ext {ds : List D} {vs : List V} (h : RDs T φ m.length H ds vs) (r : RM T φ m H) (x : Ext φ m.length H φ' n' H') : RDs T φ' n' H' ds vs := h.mono (fun _ _ q => r.tup x q) x.le x.same
theorem RDs.length : ∀ {ds : List D} {vs : List V}, RDs T φ n H ds vs → vs.length = ds.length
  | [], _, h => by cases h; rfl
  | d :: ds, _, h => by
    obtain ⟨v, r, e, _, h2⟩ := h
    subst e
    simp [RDs.length h2]
theorem RDs.get : ∀ {ds : List D} {vs : List V} {i : Nat} {d : D}, RDs T φ n H ds vs → ds[i]? = some d → ∃ v, vs[i]? = some v ∧ RD T φ n H d v
  | [], _, _, _, _, h => by simp at h
  | d :: ds, _, 0, d', h, e => by
    obtain ⟨v, r, rfl, h1, _⟩ := h
    simp only [List.getElem?_cons_zero, Option.some.injEq] at e
    subst e
    exact ⟨v, rfl, h1⟩
  | d :: ds, _, i + 1, d', h, e => by
    obtain ⟨v, r, rfl, _, h2⟩ := h
    simp only [List.getElem?_cons_succ] at e ⊢
    exact RDs.get h2 e
theorem RDs.append : ∀ {ds es : List D} {vs ws : List V}, RDs T φ n H ds vs → RDs T φ n H es ws → RDs T φ n H (ds ++ es) (vs ++ ws)
  | [], _, _, _, h, h' => by cases h; exact h'
  | d :: ds, _, _, _, h, h' => by
    obtain ⟨v, r, rfl, h1, h2⟩ := h
    exact ⟨v, _, rfl, h1, RDs.append h2 h'⟩
theorem RDs.one {d : D} {v : V} (h : RD T φ n H d v) : RDs T φ n H [d] [v] := ⟨v, [], rfl, h, rfl⟩
theorem RDs.take : ∀ {ds : List D} {vs : List V} (k : Nat), RDs T φ n H ds vs → RDs T φ n H (ds.take k) (vs.take k)
  | _, _, 0, _ => by rw [List.take_zero, List.take_zero]; rfl
  | [], _, k + 1, h => by cases h; rfl
  | d :: ds, _, k + 1, h => by
    obtain ⟨v, r, rfl, h1, h2⟩ := h
    exact ⟨v, _, rfl, h1, RDs.take k h2⟩
theorem RDs.drop : ∀ {ds : List D} {vs : List V} (k : Nat), RDs T φ n H ds vs → RDs T φ n H (ds.drop k) (vs.drop k)
  | _, _, 0, h => h
  | [], _, k + 1, h => by cases h; rfl
  | d :: ds, _, k + 1, h => by
    obtain ⟨v, r, rfl, h1, h2⟩ := h
    exact RDs.drop k h2
theorem RDs.set : ∀ {ds : List D} {vs : List V} (k : Nat) {d : D} {v : V}, RDs T φ n H ds vs → RD T φ n H d v → RDs T φ n H (ds.set k d) (vs.set k v)
  | [], _, k, _, _, h, _ => by cases h; rfl
  | d :: ds, _, 0, d', v', h, q => by
    obtain ⟨v, r, rfl, h1, h2⟩ := h
    exact ⟨v', r, rfl, q, h2⟩
  | d :: ds, _, k + 1, d', v', h, q => by
    obtain ⟨v, r, rfl, h1, h2⟩ := h
    exact ⟨v, _, rfl, h1, RDs.set k h2 q⟩
theorem RDs.eraseIdx : ∀ {ds : List D} {vs : List V} (k : Nat), RDs T φ n H ds vs → RDs T φ n H (ds.eraseIdx k) (vs.eraseIdx k)
  | [], _, k, h => by cases h; rfl
  | d :: ds, _, 0, h => by
    obtain ⟨v, r, rfl, h1, h2⟩ := h
    exact h2
  | d :: ds, _, k + 1, h => by
    obtain ⟨v, r, rfl, h1, h2⟩ := h
    exact ⟨v, _, rfl, h1, RDs.eraseIdx k h2⟩
theorem RO.mono {o : Ob} {a : Addr} (ht : ∀ p vs, SqT T.K H p vs → SqT T.K H' p vs) (hn : n ≤ n') (hs : ∀ i, i < n → φ' i = φ i) (ha : H' a = H a) (r : RO T φ n H o a) : RO T φ' n' H' o a := by
  cases o with
  | lst ds => obtain ⟨vs, h, q⟩ := r; exact ⟨vs, ha.trans h, q.mono ht hn hs⟩
  | fro ds => obtain ⟨o, vs, h, q⟩ := r; exact ⟨o, vs, ha.trans h, q.mono ht hn hs⟩
  | dct kvs => obtain ⟨ws, h, q⟩ := r; exact ⟨ws, ha.trans h, q.1, q.2.mono ht hn hs⟩
  | fdc kvs => obtain ⟨o, ws, h, q⟩ := r; exact ⟨o, ws, ha.trans h, q.1, q.2.mono ht hn hs⟩

/-- something new is laid that the memory does not hold (a tuple, a thing that is let go) -/
theorem ext_new {p : Addr} {o : HO} (hp : H p = none) : Ext φ n H φ n (upd H p o) where
  le := Nat.le_refl _
  same := fun _ _ => rfl
  new := fun i h1 h2 => absurd h2 (by omega)
  keep := fun b u h _ => by rw [upd_ne (ne_of_none h hp)]; exact h
  tr := fun b h => by
    by_cases e : b = p
    · subst e; rw [upd_same]; simp
    · rw [upd_ne e]; exact h
  frz := fun b o u h => by rw [upd_ne (ne_of_none h hp)]; exact h
theorem RM.new (r : RM T φ m H) {p : Addr} {o : HO} (hp : H p = none) : RM T φ m (upd H p o) := by
  refine ⟨fun i u e => ?_, r.inj⟩
  have hi : i < m.length := (List.getElem?_eq_some_iff.mp e).1
  have hne : φ i ≠ p := fun z => r.some_ hi (by rw [z]; exact hp)
  exact (r.obj i u e).mono (fun _ _ q => r.tup (ext_new hp) q) (Nat.le_refl _) (fun _ _ => rfl) (upd_ne hne)
/-- the memory grows by a thing at p -/
def grow (φ : Nat → Addr) (n : Nat) (p : Addr) : Nat → Addr := fun i => if i = n then p else φ i
theorem grow_new : grow φ n n' n = n' := if_pos rfl
theorem grow_old {i : Nat} {p : Addr} (h : i < n) : grow φ n p i = φ i := if_neg (by omega)
theorem ext_grow {p : Addr} {o : HO} (hp : H p = none) : Ext φ n H (grow φ n p) (n + 1) (upd H p o) where
  le := Nat.le_succ _
  same := fun i h => grow_old h
  new := fun i h1 h2 => by
    have e : i = n := by omega
    subst e
    rw [grow_new]; exact hp
  keep := fun b u h _ => by rw [upd_ne (ne_of_none h hp)]; exact h
  tr := (ext_new (φ := φ) (n := n) hp).tr
  frz := (ext_new (φ := φ) (n := n) hp).frz
theorem RM.grow (r : RM T φ m H) {p : Addr} {u : HO} {o : Ob} (hp : H p = none) (ho : RO T (grow φ m.length p) (m.length + 1) (upd H p u) o p) : RM T (grow φ m.length p) (m ++ [o]) (upd H p u) := by
  have x := ext_grow (φ := φ) (n := m.length) (o := u) hp
  refine ⟨fun i v e => ?_, fun i j hi hj e => ?_⟩
  · rw [List.length_append, List.length_singleton]
    by_cases hi : i < m.length
    · rw [List.getElem?_append_left hi] at e
      rw [grow_old hi]
      have hne : φ i ≠ p := fun z => r.some_ hi (by rw [z]; exact hp)
      exact (r.obj i v e).mono (fun _ _ q => r.tup x q) x.le x.same (upd_ne hne)
    · rw [List.getElem?_append_right (by omega)] at e
      have hz : i - m.length = 0 := by
        have := (List.getElem?_eq_some_iff.mp e).1
        simp at this
        omega
      rw [hz] at e
      simp only [List.getElem?_cons_zero, Option.some.injEq] at e
      subst e
      have e2 : i = m.length := by omega
      subst e2
      rw [grow_new]
      exact ho
  · rw [List.length_append, List.length_singleton] at hi hj
    by_cases h1 : i < m.length
    · by_cases h2 : j < m.length
      · rw [grow_old h1, grow_old h2] at e; exact r.inj i j h1 h2 e
      · have e2 : j = m.length := by omega
        subst e2
        rw [grow_old h1, grow_new] at e
        exact absurd hp (by rw [← e]; exact r.some_ h1)
    · have e1 : i = m.length := by omega
      subst e1
      by_cases h2 : j < m.length
      · rw [grow_new, grow_old h2] at e
        exact absurd hp (by rw [e]; exact r.some_ h2)
      · omega
/-- a thing of the memory is written -/
theorem ext_write {a : Nat} {u : HO} (r : RM T φ m H) (ha : a < m.length) (hz : ∀ o w, H (φ a) ≠ some (.frz o w)) (o : Ob) : Ext φ m.length H φ (m.set a o).length (upd H (φ a) u) where
  le := by rw [List.length_set]; exact Nat.le_refl _
  same := fun _ _ => rfl
  new := fun i h1 h2 => absurd h2 (by rw [List.length_set]; omega)
  keep := fun b v h hn => by rw [upd_ne (fun e => hn a ha e.symm)]; exact h
  tr := fun b h => by
    by_cases e : b = φ a
    · subst e; rw [upd_same]; simp
    · rw [upd_ne e]; exact h
  frz := fun b o u h => by rw [upd_ne (fun e => hz o u (by rw [← e]; exact h))]; exact h
theorem RM.write (r : RM T φ m H) {a : Nat} {u : HO} {o : Ob} (ha : a < m.length) (hz : ∀ o w, H (φ a) ≠ some (.frz o w)) (ho : RO T φ m.length (upd H (φ a) u) o (φ a)) : RM T φ (m.set a o) (upd H (φ a) u) := by
  have x := ext_write (u := u) r ha hz o
  refine ⟨fun i v e => ?_, fun i j hi hj => r.inj i j (by simpa using hi) (by simpa using hj)⟩
  rw [List.length_set]
  by_cases hi : i = a
  · subst hi
    rw [List.getElem?_set_self ha] at e
    cases e
    exact ho
  · rw [List.getElem?_set_ne (Ne.symm hi)] at e
    have hl : i < m.length := (List.getElem?_eq_some_iff.mp e).1
    have hne : φ i ≠ φ a := fun z => hi (r.inj i a hl ha z)
    exact (r.obj i v e).mono (fun _ _ q => r.tup x q) (by simp) (fun _ _ => rfl) (upd_ne hne)
end

/-! ### slots -/
def RL (T : Tb) (φ : Nat → Addr) (n : Nat) (H : Hp) (δ : Lc) (σ : L2.St) : Prop := δ.length = σ.length ∧ ∀ (i : Nat) d, δ[i]? = some (some d) → ∃ v, σ[i]? = some (some v) ∧ RD T φ n H d v
/-- the dict of a caught error -/
def XD (T : Tb) (c : Nat) (φ : Nat → Addr) (n : Nat) (H : Hp) (fs : List D) (dx : Option Addr) : Prop := match T.pr.fld c with
  | none => fs = []
  | some f => ∃ d dd v, fs = [d] ∧ dx = some dd ∧ H dd = some (.xd [(T.fnm f, v)]) ∧ RD T φ n H d v
section
variable {T : Tb} {φ φ' : Nat → Addr} {n' : Nat} {H H' : Hp} {m : Mem} {δ : Lc} {σ : L2.St}
theorem RL.ext (h : RL T φ m.length H δ σ) (r : RM T φ m H) (x : Ext φ m.length H φ' n' H') : RL T φ' n' H' δ σ := ⟨h.1, fun i d e => by
  obtain ⟨v, e1, q⟩ := h.2 i d e
  exact ⟨v, e1, q.ext r x⟩⟩
theorem RL.set {φ : Nat → Addr} {n : Nat} (h : RL T φ n H δ σ) {i : Nat} {d : D} {v : V} (q : RD T φ n H d v) : RL T φ n H (δ.set i (some d)) (σ.set i (some v)) := by
  refine ⟨by simpa using h.1, fun j e hj => ?_⟩
  by_cases hij : i = j
  · subst hij
    by_cases hl : i < δ.length
    · rw [List.getElem?_set_self hl] at hj
      cases hj
      exact ⟨v, List.getElem?_set_self (by rw [← h.1]; exact hl), q⟩
    · rw [List.getElem?_eq_none (by simpa using hl)] at hj
      cases hj
  · rw [List.getElem?_set_ne hij] at hj ⊢
    exact h.2 j e hj
theorem RL.unset {φ : Nat → Addr} {n : Nat} (h : RL T φ n H δ σ) {i : Nat} : RL T φ n H (δ.set i none) (σ.set i none) := by
  refine ⟨by simpa using h.1, fun j e hj => ?_⟩
  by_cases hij : i = j
  · subst hij
    by_cases hl : i < δ.length
    · rw [List.getElem?_set_self hl] at hj
      cases hj
    · rw [List.getElem?_eq_none (by simpa using hl)] at hj
      cases hj
  · rw [List.getElem?_set_ne hij] at hj ⊢
    exact h.2 j e hj
theorem XD.ext {c : Nat} {fs : List D} {dx : Option Addr} (h : XD T c φ m.length H fs dx) (r : RM T φ m H) (x : Ext φ m.length H φ' n' H') : XD T c φ' n' H' fs dx := by
  unfold XD at h ⊢
  cases e : T.pr.fld c with
  | none => rw [e] at h; exact h
  | some f =>
    rw [e] at h
    obtain ⟨d, dd, v, e1, e2, e3, q⟩ := h
    exact ⟨d, dd, v, e1, e2, x.keep _ _ e3 (r.off e3 (by simp) (by simp) (by simp) (by simp)), q.ext r x⟩
end
end EvB
set_option linter.all false
set_option maxRecDepth 100000
set_option maxHeartbeats 4000000
/-! EvM8: a dict beside an int: never equal. -/
namespace EvM
open PySem PySem.Spec PyProof.Rows L2
open AutoSeq1 (wpAny_loadPart')
open MeetsSeq
theorem dict_eq_declines_int (l : Addr) (o : Obj) (b : Int) (u : Tok) :
    Meets (Builtin.«dict.__eq__» ⟨[.ref l, .int b u], []⟩) (fun _ R s => s.heap.get? l = some o ∧ (o.cls = .type "dict" ∧ ∃ es ep, o.data = .dict es ep) ∧ R (.ok (.ret .notImplemented)) s) :=
  .of_wp fun prog w A R s h => by
    obtain ⟨hp, g, d, tk, os⟩ := s
    obtain ⟨hl, hc, h⟩ := h
    obtain ⟨oc, od, dt, sl⟩ := o
    obtain ⟨hc, es, ep, hd⟩ := hc
    simp only at hc hd
    subst hc hd
    have f1 := F.sub_int_dict
    wp_walk using wpAny_loadPart' hl
    exact ⟨_, rfl, h⟩
theorem dict_ne_declines_int (l : Addr) (o : Obj) (b : Int) (u : Tok) :
    Meets (Builtin.«dict.__ne__» ⟨[.ref l, .int b u], []⟩) (fun _ R s => s.heap.get? l = some o ∧ (o.cls = .type "dict" ∧ ∃ es ep, o.data = .dict es ep) ∧ R (.ok (.ret .notImplemented)) s) :=
  .of_wp fun prog w A R s h => by
    obtain ⟨hp, g, d, tk, os⟩ := s
    obtain ⟨hl, hc, h⟩ := h
    obtain ⟨oc, od, dt, sl⟩ := o
    obtain ⟨hc, es, ep, hd⟩ := hc
    simp only at hc hd
    subst hc hd
    have f1 := F.sub_int_dict
    wp_walk using wpAny_loadPart' hl
    exact ⟨_, rfl, h⟩
theorem int_eq_declines_dict (l : Addr) (o : Obj) (b : Int) (u : Tok) :
    Meets (Builtin.«int.__eq__» ⟨[.int b u, .ref l], []⟩) (fun _ R s => s.heap.get? l = some o ∧ (o.cls = .type "dict" ∧ ∃ es ep, o.data = .dict es ep) ∧ R (.ok (.ret .notImplemented)) s) :=
  .of_wp fun prog w A R s h => by
    obtain ⟨hp, g, d, tk, os⟩ := s
    obtain ⟨hl, hc, h⟩ := h
    obtain ⟨oc, od, dt, sl⟩ := o
    obtain ⟨hc, es, ep, hd⟩ := hc
    simp only at hc hd
    subst hc hd
    wp_walk using wpAny_loadPart' hl, wpAny_load hl
    exact ⟨_, rfl, h⟩
theorem int_ne_declines_dict (l : Addr) (o : Obj) (b : Int) (u : Tok) :
    Meets (Builtin.«int.__ne__» ⟨[.int b u, .ref l], []⟩) (fun _ R s => s.heap.get? l = some o ∧ (o.cls = .type "dict" ∧ ∃ es ep, o.data = .dict es ep) ∧ R (.ok (.ret .notImplemented)) s) :=
  .of_wp fun prog w A R s h => by
    obtain ⟨hp, g, d, tk, os⟩ := s
    obtain ⟨hl, hc, h⟩ := h
    obtain ⟨oc, od, dt, sl⟩ := o
    obtain ⟨hc, es, ep, hd⟩ := hc
    simp only at hc hd
    subst hc hd
    wp_walk using wpAny_loadPart' hl, wpAny_load hl
    exact ⟨_, rfl, h⟩
section
variable {prog : Program} {w : World} {A : Around} {E : Value → Shared → Prop} {s : Shared} {l : Addr} {o : Obj} {b : Int} {u : Tok} {Q : Value → Shared → Prop}
theorem eq_dict_int (hl : s.heap.get? l = some o) (hc : o.cls = .type "dict" ∧ ∃ es ep, o.data = .dict es ep) (hu : A.units < cLine) (h : Q (.bool false) s) : wpAny (model prog w) A (compareOp .Eq (.ref l) (.int b u)) Q E s := by
  show wpAny (model prog w) A (richCompare .Eq (.ref l) (.int b u)) Q E s
  exact SeqAt.rc_eq_decline_or (k := false) ⟨_, hl, hc.1⟩ (typeIs_int s b u) (by decide) F.sub_int_dict F.slot_dict_eq F.slot_int_eq_refl
    (fun _ hq => call_meets F.slot_dict_eq ⟨_, hl, hc.1⟩ F.entry_dict_eq (F.args_dict_eq_2 _ _) (dict_eq_declines_int l o b u) ⟨hl, hc, hq⟩)
    (fun _ hq => call_meets F.slot_int_eq_refl (typeIs_int s b u) F.entry_int_eq (F.args_int_eq_2 _ _) (int_eq_declines_dict l o b u) ⟨hl, hc, hq⟩)
    (fun _ hq => wpAny_of_eq (rfl : isSame (.ref l) (.int b u) = pure false) hq) (.inr hu) h
theorem ne_dict_int (hl : s.heap.get? l = some o) (hc : o.cls = .type "dict" ∧ ∃ es ep, o.data = .dict es ep) (hu : A.units < cLine) (h : Q (.bool true) s) : wpAny (model prog w) A (compareOp .NotEq (.ref l) (.int b u)) Q E s := by
  show wpAny (model prog w) A (richCompare .NotEq (.ref l) (.int b u)) Q E s
  exact SeqAt.rc_ne_decline_or (k := false) ⟨_, hl, hc.1⟩ (typeIs_int s b u) (by decide) F.sub_int_dict F.slot_dict_ne F.slot_int_ne_refl
    (fun _ hq => call_meets F.slot_dict_ne ⟨_, hl, hc.1⟩ F.entry_dict_ne (F.args_dict_ne_2 _ _) (dict_ne_declines_int l o b u) ⟨hl, hc, hq⟩)
    (fun _ hq => call_meets F.slot_int_ne_refl (typeIs_int s b u) F.entry_int_ne (F.args_int_ne_2 _ _) (int_ne_declines_dict l o b u) ⟨hl, hc, hq⟩)
    (fun _ hq => wpAny_of_eq (rfl : isSame (.ref l) (.int b u) = pure false) hq) (.inr hu) h
end
section
variable {X : Cx}
theorem dict_cls {pins : List (Addr × Obj)} {σ : L2.St} {H : Hp} {s : Shared} {a : Addr} {kvs : List (Key × V)} (I : Inv X pins σ H s) (h : Rd H a (.dK kvs)) : ∃ o, s.heap.get? a = some o ∧ (o.cls = .type "dict" ∧ ∃ es ep, o.data = .dict es ep) := by
  rcases h with h | ⟨ob, h⟩
  · obtain ⟨_, _, vs, _, o, es, ep, h1, h2, h3, _⟩ := (show ObjOk X.prog X.w H s.heap a (.dK kvs) from I.hok a _ h)
    exact ⟨o, h1, h2.1, es, ep, h3⟩
  · obtain ⟨_, _, _, vs, _, o, es, ep, h1, h2, h3, _⟩ := (show ObjOk X.prog X.w H s.heap a (.frz ob (.dK kvs)) from I.hok a _ h)
    exact ⟨o, h1, h2.1, es, ep, h3⟩
theorem op_eqDI (hu : X.A.units < cLine) : OpR X (compareOp .Eq) (fun x y H Q => ∃ a i kvs, x = .ref a ∧ y = .int i ∧ Rd H a (.dK kvs) ∧ Q (.bl false) H) := by
  intro pins s σ H x y v u Q I rx ry h
  obtain ⟨a, i, kvs, rfl, rfl, hd, q⟩ := h
  cases rx
  obtain ⟨t, rfl⟩ := ry
  obtain ⟨o, h1, h2⟩ := dict_cls I hd
  exact eq_dict_int h1 h2 hu ⟨.bl false, H, I, rfl, q⟩
theorem op_neDI (hu : X.A.units < cLine) : OpR X (compareOp .NotEq) (fun x y H Q => ∃ a i kvs, x = .ref a ∧ y = .int i ∧ Rd H a (.dK kvs) ∧ Q (.bl true) H) := by
  intro pins s σ H x y v u Q I rx ry h
  obtain ⟨a, i, kvs, rfl, rfl, hd, q⟩ := h
  cases rx
  obtain ⟨t, rfl⟩ := ry
  obtain ⟨o, h1, h2⟩ := dict_cls I hd
  exact ne_dict_int h1 h2 hu ⟨.bl true, H, I, rfl, q⟩
end
end EvM
set_option linter.all false
set_option maxRecDepth 100000
set_option maxHeartbeats 4000000
/-! EvB2: operations by value do what the evaluator says. -/
namespace EvB
open PySem PySem.Spec PyProof.Rows L2
open Ev (D Ob Mem Rs Lc Ky)

theorem line_eq : Ev.line = sizeLine := by rw [sizeLine_eq]; rfl

/-- a result without an exception, from the state (φ, m, H) -/
def Ok (T : Tb) (φ : Nat → Addr) (m : Mem) (H : Hp) (r : Rs D) (Q : VK) : Prop := match r with
  | .ok d m' => ∀ φ' H' v, Ext φ m.length H φ' m'.length H' → RM T φ' m' H' → RD T φ' m'.length H' d v → Q v H'
  | _ => False
section
variable {T : Tb} {φ : Nat → Addr} {m : Mem} {H : Hp} {Q : VK}
/-- the memory as it was -/
theorem Ok.now {d : D} {v : V} (rm : RM T φ m H) (h : Ok T φ m H (.ok d m) Q) (r : RD T φ m.length H d v) : Q v H := h φ H v .refl rm r
theorem Ok.newL {ds : List D} {vs : List V} (rm : RM T φ m H) (h : Ok T φ m H (Ev.newLst ds m) Q) (r : RDs T φ m.length H ds vs) : ∀ p, H p = none → Q (.ref p) (upd H p (.lst vs)) := fun p hp => by
  have x := ext_grow (φ := φ) (n := m.length) (o := HO.lst vs) hp
  have h' : ∀ φ' H' v, Ext φ m.length H φ' (m ++ [Ob.lst ds]).length H' → RM T φ' (m ++ [Ob.lst ds]) H' → RD T φ' (m ++ [Ob.lst ds]).length H' (.obj m.length) v → Q v H' := h
  refine h' (grow φ m.length p) _ _ (by rw [List.length_append, List.length_singleton]; exact x) (rm.grow hp ?_) ?_
  · exact ⟨vs, upd_same, r.ext rm x⟩
  · rw [List.length_append, List.length_singleton]
    exact ⟨Nat.lt_succ_self _, by rw [grow_new]⟩
theorem Ok.newT {ds : List D} {vs : List V} (rm : RM T φ m H) (h : Ok T φ m H (.ok (.tup ds) m) Q) (r : RDs T φ m.length H ds vs) : ∀ p, H p = none → Q (.ref p) (upd H p (.tup vs)) := fun p hp => by
  have x := ext_new (φ := φ) (n := m.length) (o := HO.tup vs) hp
  exact h φ _ _ x (rm.new hp) ⟨p, vs, rfl, .of upd_same, r.ext rm x⟩
theorem Ok.wr {a : Nat} {d : D} {o : Ob} {u : HO} {v : V} (rm : RM T φ m H) (h : Ok T φ m H (.ok d (m.set a o)) Q) (ha : a < m.length) (hz : ∀ o w, H (φ a) ≠ some (.frz o w)) (ho : RO T φ m.length (upd H (φ a) u) o (φ a)) (r : RD T φ m.length H d v) : Q v (upd H (φ a) u) := by
  have x := ext_write (u := u) rm ha hz o
  exact h φ _ v x (rm.write ha hz ho) (r.ext rm x)
end

/-! ### sequences -/
section
variable {T : Tb} {φ : Nat → Addr} {m : Mem} {H : Hp}
theorem lst_at (rm : RM T φ m H) {a : Nat} {xs : List D} (h : m[a]? = some (.lst xs)) : a < m.length ∧ ∃ vs, H (φ a) = some (.lst vs) ∧ RDs T φ m.length H xs vs := ⟨(List.getElem?_eq_some_iff.mp h).1, rm.obj a _ h⟩
theorem fro_at (rm : RM T φ m H) {a : Nat} {xs : List D} (h : m[a]? = some (.fro xs)) : ∃ o vs, H (φ a) = some (.frz o (.lst vs)) ∧ RDs T φ m.length H xs vs := rm.obj a _ h
/-- what seqOf reads -/
theorem seq_at (rm : RM T φ m H) {x : D} {xs : List D} {v : V} (h : Ev.seqOf x m = some xs) (r : RD T φ m.length H x v) : ∃ p vs, v = .ref p ∧ (SqL T.K H p vs ∨ SqT T.K H p vs) ∧ RDs T φ m.length H xs vs := by
  cases x with
  | tup ds => cases h; obtain ⟨p, vs, e, q, r⟩ := r; exact ⟨p, vs, e, .inr q, r⟩
  | obj a =>
    unfold Ev.seqOf at h
    simp only at h
    obtain ⟨_, rfl⟩ := r
    split at h
    · rename_i hm
      cases h
      obtain ⟨_, vs, e, r⟩ := lst_at rm hm
      exact ⟨_, vs, rfl, .inl (.of e), r⟩
    · rename_i hm
      cases h
      obtain ⟨o, vs, e, r⟩ := fro_at rm hm
      exact ⟨_, vs, rfl, .inl (.inl (.inr ⟨o, e⟩)), r⟩
    · cases h
  | _ => cases h
/-- the same, a list -/
theorem seqL_at (rm : RM T φ m H) {a : Nat} {xs : List D} {v : V} (h : Ev.seqOf (.obj a) m = some xs) (r : RD T φ m.length H (.obj a) v) : ∃ vs, v = .ref (φ a) ∧ SqL T.K H (φ a) vs ∧ RDs T φ m.length H xs vs := by
  unfold Ev.seqOf at h
  simp only at h
  obtain ⟨_, rfl⟩ := r
  split at h
  · rename_i hm
    cases h
    obtain ⟨_, vs, e, r⟩ := lst_at rm hm
    exact ⟨vs, rfl, .of e, r⟩
  · rename_i hm
    cases h
    obtain ⟨o, vs, e, r⟩ := fro_at rm hm
    exact ⟨vs, rfl, .inl (.inr ⟨o, e⟩), r⟩
  · cases h
theorem atIx_eq (n : Nat) (i : Int) : Ev.atIx n i = ixN n i := rfl
end

/-! ### data -/
section
variable {T : Tb} {φ : Nat → Addr} {m : Mem} {H : Hp}
theorem mapO_some {α β : Type} {f : α → Option β} : ∀ {xs : List α} {ys : List β}, Ev.mapO f xs = some ys → xs.length = ys.length ∧ ∀ (i : Nat) x, xs[i]? = some x → ∃ y, ys[i]? = some y ∧ f x = some y
  | [], ys, h => by cases h; exact ⟨rfl, fun i x e => by simp at e⟩
  | x :: xs, ys, h => by
    unfold Ev.mapO at h
    cases e : f x with
    | none => rw [e] at h; cases h
    | some y =>
      rw [e] at h
      cases e2 : Ev.mapO f xs with
      | none => rw [e2] at h; cases h
      | some zs =>
        rw [e2] at h
        cases h
        obtain ⟨h1, h2⟩ := mapO_some e2
        refine ⟨by simp [h1], fun i x' hx => ?_⟩
        cases i with
        | zero => simp only [List.getElem?_cons_zero, Option.some.injEq] at hx; subst hx; exact ⟨y, rfl, e⟩
        | succ i => simp only [List.getElem?_cons_succ] at hx ⊢; exact h2 i x' hx
theorem dp_all {n : Nat} (ih : ∀ d p v, Ev.toPy m n d = some p → RD T φ m.length H d v → Dp T.K H v p) : ∀ {xs : List D} {ps : List PyData} {vs : List V}, Ev.mapO (Ev.toPy m n) xs = some ps → RDs T φ m.length H xs vs → DpAll T.K H vs ps
  | [], ps, vs, h, r => by cases h; cases r; exact .nil
  | x :: xs, ps, vs, h, r => by
    unfold Ev.mapO at h
    obtain ⟨v, r', rfl, r1, r2⟩ := r
    cases e : Ev.toPy m n x with
    | none => rw [e] at h; cases h
    | some y =>
      rw [e] at h
      cases e2 : Ev.mapO (Ev.toPy m n) xs with
      | none => rw [e2] at h; cases h
      | some zs =>
        rw [e2] at h
        cases h
        exact .cons (ih x y v e r1) (dp_all ih e2 r2)
theorem dp_of (rm : RM T φ m H) : ∀ (n : Nat) (d : D) (p : PyData) (v : V), Ev.toPy m n d = some p → RD T φ m.length H d v → Dp T.K H v p
  | 0, _, _, _, h, _ => by cases h
  | n + 1, d, p, v, h, r => by
    unfold Ev.toPy at h
    cases d with
    | non => cases h; cases r; exact .non
    | bl b => cases h; cases r; exact .bl b
    | int i => cases h; cases r; exact .int i
    | str s => cases h; cases r; exact .str s
    | tup xs =>
      simp only [Option.map_eq_some_iff] at h
      obtain ⟨ps, e, rfl⟩ := h
      obtain ⟨a, vs, rfl, q, r⟩ := r
      exact .tup q (dp_all (dp_of rm n) e r)
    | obj a =>
      simp only at h
      obtain ⟨_, rfl⟩ := r
      split at h
      · rename_i hm
        simp only [Option.map_eq_some_iff] at h
        obtain ⟨ps, e, rfl⟩ := h
        obtain ⟨_, vs, e1, r⟩ := lst_at rm hm
        exact .lst (.of e1) (dp_all (dp_of rm n) e r)
      · rename_i hm
        simp only [Option.map_eq_some_iff] at h
        obtain ⟨ps, e, rfl⟩ := h
        obtain ⟨o, vs, e1, r⟩ := fro_at rm hm
        exact .lst (.inl (.inr ⟨o, e1⟩)) (dp_all (dp_of rm n) e r)
      · cases h
    | fn i => cases h
end

/-! ### the rules by value -/
/-- two values by f -/
def V2 (T : Tb) (f : D → D → Mem → Rs D) : R2 := fun v u H Q => ∃ x y m φ, RM T φ m H ∧ RD T φ m.length H x v ∧ RD T φ m.length H y u ∧ Ok T φ m H (f x y m) Q
def VN (T : Tb) (f : List D → Mem → Rs D) : List V → Hp → VK → Prop := fun vs H Q => ∃ xs m φ, RM T φ m H ∧ RDs T φ m.length H xs vs ∧ Ok T φ m H (f xs m) Q
section
variable {T : Tb} {X : Cx}
theorem OpR.imp {f : Value → Value → Sem Value} {r r' : R2} (h : OpR X f r) (q : ∀ x y H Q, r' x y H Q → r x y H Q) : OpR X f r' := fun pins s σ H x y v u Q I rx ry h' => h pins s σ H x y v u Q I rx ry (q _ _ _ _ h')
theorem CallR.imp {f : Value} {r r' : List V → Hp → VK → Prop} (h : CallR X f r) (q : ∀ xs H Q, r' xs H Q → r xs H Q) : CallR X f r' := fun pins s σ H xs us Q I rx h' => h pins s σ H xs us Q I rx (q _ _ _ h')
theorem CallR.or {f : Value} {r r' : List V → Hp → VK → Prop} (h : CallR X f r) (h' : CallR X f r') : CallR X f (fun xs H Q => r xs H Q ∨ r' xs H Q) := fun pins s σ H xs us Q I rx q => q.elim (h pins s σ H xs us Q I rx) (h' pins s σ H xs us Q I rx)

def opOf : Ev.Op2 → Operator
  | .add => .Add | .sub => .Sub | .mul => .Mult | .fdiv => .FloorDiv | .mod => .Mod | .pow => .Pow
theorem op2_ok (o : Ev.Op2) : OpR X (binaryOp (opOf o)) (V2 T (Ev.op2 o)) := by
  cases o with
  | add =>
    refine OpR.imp (OpR.or op_add op_add_str) fun v u H Q ⟨x, y, m, φ, rm, rx, ry, h⟩ => ?_
    cases x with
    | int a =>
      cases y with
      | int b => cases rx; cases ry; exact .inl ⟨a, b, rfl, rfl, h.now rm rfl⟩
      | _ => exact h.elim
    | str a =>
      cases y with
      | str b =>
        cases rx; cases ry
        unfold Ev.op2 at h
        simp only at h
        split at h
        · rename_i hz; exact .inr ⟨a, b, rfl, rfl, by rw [← line_eq]; exact hz, h.now rm rfl⟩
        · exact h.elim
      | _ => exact h.elim
    | _ => cases y <;> exact h.elim
  | sub =>
    refine OpR.imp op_sub fun v u H Q ⟨x, y, m, φ, rm, rx, ry, h⟩ => ?_
    cases x with
    | int a =>
      cases y with
      | int b => cases rx; cases ry; exact ⟨a, b, rfl, rfl, h.now rm rfl⟩
      | _ => exact h.elim
    | _ => cases y <;> exact h.elim
  | mul =>
    refine OpR.imp (OpR.or op_mul op_mulW) fun v u H Q ⟨x, y, m, φ, rm, rx, ry, h⟩ => ?_
    cases x with
    | int a =>
      cases y with
      | int b =>
        cases rx; cases ry
        unfold Ev.op2 at h
        simp only at h
        split at h
        · rename_i hz
          unfold Ev.mulOk at hz
          simp only [Bool.or_eq_true, Bool.and_eq_true, decide_eq_true_eq] at hz
          rcases hz with (hz | hz) | hz
          · exact .inl ⟨a, b, rfl, rfl, .inl (by omega), h.now rm rfl⟩
          · exact .inl ⟨a, b, rfl, rfl, .inr (by omega), h.now rm rfl⟩
          · exact .inr ⟨a, b, rfl, rfl, by show _ + _ < 1000000; omega, h.now rm rfl⟩
        · exact h.elim
      | _ => exact h.elim
    | _ => cases y <;> exact h.elim
  | fdiv =>
    refine OpR.imp op_fdivW fun v u H Q ⟨x, y, m, φ, rm, rx, ry, h⟩ => ?_
    cases x with
    | int a =>
      cases y with
      | int b =>
        cases rx; cases ry
        unfold Ev.op2 at h
        simp only at h
        split at h
        · rename_i hz; exact ⟨a, b, rfl, rfl, hz, h.now rm rfl⟩
        · exact h.elim
      | _ => exact h.elim
    | _ => cases y <;> exact h.elim
  | mod =>
    refine OpR.imp op_mod fun v u H Q ⟨x, y, m, φ, rm, rx, ry, h⟩ => ?_
    cases x with
    | int a =>
      cases y with
      | int b =>
        cases rx; cases ry
        unfold Ev.op2 at h
        simp only at h
        split at h
        · rename_i hz; exact ⟨a, b, rfl, rfl, hz, h.now rm rfl⟩
        · exact h.elim
      | _ => exact h.elim
    | _ => cases y <;> exact h.elim
  | pow =>
    refine OpR.imp op_pow fun v u H Q ⟨x, y, m, φ, rm, rx, ry, h⟩ => ?_
    cases x with
    | int a =>
      cases y with
      | int b =>
        cases rx; cases ry
        unfold Ev.op2 at h
        simp only at h
        split at h
        · rename_i hz; exact ⟨a, b, rfl, rfl, hz, h.now rm rfl⟩
        · exact h.elim
      | _ => exact h.elim
    | _ => cases y <;> exact h.elim

/-! ### comparisons -/
def cmOf : Ev.Cm → CmpOp
  | .eq => .Eq | .ne => .NotEq | .lt => .Lt | .le => .LtE | .gt => .Gt | .ge => .GtE | .is => .Is | .isnot => .IsNot | .inn => .In | .notin => .NotIn
theorem cmp_int {c : CmpOp} {f : Int → Int → Bool} {g : D → D → Mem → Rs D} (h : OpR X (compareOp c) (rI0 fun i j => .bl (f i j)))
    (hg : ∀ x y m, g x y m = (match x, y with | .int a, .int b => .ok (.bl (f a b)) m | _, _ => .stuck)) : OpR X (compareOp c) (V2 T g) := by
  refine OpR.imp h fun v u H Q ⟨x, y, m, φ, rm, rx, ry, h⟩ => ?_
  rw [hg] at h
  cases x with
  | int a =>
    cases y with
    | int b => cases rx; cases ry; exact ⟨a, b, rfl, rfl, h.now rm rfl⟩
    | _ => exact h.elim
  | _ => cases y <;> exact h.elim
theorem is_non {T : Tb} {φ : Nat → Addr} {n : Nat} {H : Hp} {x : D} {v : V} (r : RD T φ n H x v) : decide (v = .non) = (match x with | .non => true | _ => false) := by
  cases x with
  | non => cases r; rfl
  | bl b => cases r; rfl
  | int b => cases r; rfl
  | str b => cases r; rfl
  | tup b => obtain ⟨_, _, rfl, _⟩ := r; rfl
  | obj a => obtain ⟨_, rfl⟩ := r; rfl
  | fn i => obtain ⟨_, rfl⟩ := r; rfl
theorem eqV_dp {φ : Nat → Addr} {m : Mem} {H : Hp} {x y : D} {v u : V} {b : Bool} (rm : RM T φ m H) (rx : RD T φ m.length H x v) (ry : RD T φ m.length H y u) (h : Ev.eqW x y m = some b) :
    ∃ d e, Dp T.K H v d ∧ Dp T.K H u e ∧ SeqAt.shaped d = true ∧ SeqAt.shaped e = true ∧ b = PyData.eqv d e := by
  unfold Ev.eqW at h
  cases e1 : Ev.toPy m 60 x with
  | none => rw [e1] at h; cases h
  | some d =>
    cases e2 : Ev.toPy m 60 y with
    | none => rw [e1, e2] at h; cases h
    | some e =>
      rw [e1, e2] at h
      simp only at h
      split at h
      · rename_i hs
        cases h
        exact ⟨d, e, dp_of rm _ _ _ _ e1 rx, dp_of rm _ _ _ _ e2 ry, hs.1, hs.2, rfl⟩
      · cases h
theorem eqV_rel {φ : Nat → Addr} {m : Mem} {H : Hp} {x y : D} {v u : V} {b : Bool} (rm : RM T φ m H) (rx : RD T φ m.length H x v) (ry : RD T φ m.length H y u) (h : Ev.eqV x y m = some b) :
    (∃ d e, Dp T.K H v d ∧ Dp T.K H u e ∧ SeqAt.shaped d = true ∧ SeqAt.shaped e = true ∧ b = PyData.eqv d e) ∨ (b = false ∧ ∃ a i kvs, v = .ref a ∧ u = .int i ∧ Rd H a (.dK kvs)) := by
  unfold Ev.eqV at h
  split at h
  · rename_i hd
    cases h
    refine .inr ⟨rfl, ?_⟩
    unfold Ev.dctInt at hd
    split at hd
    · rename_i a i
      cases ry
      obtain ⟨_, rfl⟩ := rx
      split at hd
      · rename_i hm
        obtain ⟨ws, e, r⟩ := rm.obj _ _ hm
        exact ⟨_, _, ws, rfl, rfl, .inl e⟩
      · rename_i hm
        obtain ⟨o, ws, e, r⟩ := rm.obj _ _ hm
        exact ⟨_, _, ws, rfl, rfl, .inr ⟨o, e⟩⟩
      · cases hd
    · cases hd
  · exact .inl (eqV_dp rm rx ry h)
theorem valV_keys {ws : List (Key × V)} {kvs : List (Ky × D)} (h : ws.map (·.1) = kvs.map (·.1)) (k : Key) : (valV ws k).isSome = Ev.inDict k kvs := by
  rw [← valV_any]
  unfold Ev.inDict
  have e1 : (ws.any fun kv => decide (kv.1 = k)) = (ws.map (·.1)).any fun x => decide (x = k) := by rw [List.any_map]; rfl
  have e2 : (kvs.any fun kv => decide (kv.1 = k)) = (kvs.map (·.1)).any fun x => decide (x = k) := by rw [List.any_map]; rfl
  rw [e1, h]
  exact e2.symm
theorem kyOf_rel {φ : Nat → Addr} {n : Nat} {H : Hp} {x : D} {v : V} {k : Ky} (r : RD T φ n H x v) (h : Ev.kyOf x = some k) : v = kV k := by
  cases x with
  | int i => cases h; cases r; rfl
  | str s => cases h; cases r; rfl
  | _ => cases h
/-- what `in` reads -/
theorem inV_rel {φ : Nat → Addr} {m : Mem} {H : Hp} {x y : D} {v u : V} {b : Bool} (rm : RM T φ m H) (rx : RD T φ m.length H x v) (ry : RD T φ m.length H y u) (h : Ev.inV x y m = some b) :
    (∃ a o, u = .ref a ∧ DGet H a v o ∧ b = o.isSome) ∨ ∃ d ds, Dp T.K H v d ∧ Dp T.K H u (.list ds) ∧ SeqAt.shaped d = true ∧ SeqAt.shaped (.list ds) = true ∧ b = ds.any fun z => PyData.eqv z d := by
  cases y with
  | obj a =>
    have hS : Ev.inS x (.obj a) m = some b → ∃ d ds, Dp T.K H v d ∧ Dp T.K H u (.list ds) ∧ SeqAt.shaped d = true ∧ SeqAt.shaped (.list ds) = true ∧ b = ds.any fun z => PyData.eqv z d := fun h => by
      unfold Ev.inS at h
      split at h
      · rename_i d ds e1 e2
        split at h
        · rename_i hs
          cases h
          exact ⟨d, ds, dp_of rm _ _ _ _ e1 rx, dp_of rm _ _ _ _ e2 ry, hs.1, hs.2, rfl⟩
        · cases h
      · cases h
    unfold Ev.inV at h
    simp only at h
    split at h
    · rename_i kvs hm
      split at h
      · rename_i k hk
        cases h
        obtain ⟨ws, e, r⟩ := rm.obj _ _ hm
        cases kyOf_rel rx hk
        exact .inl ⟨_, _, ry.2, DGet.k e, (valV_keys r.1 k).symm⟩
      · cases h
    · rename_i kvs hm
      split at h
      · rename_i k hk
        cases h
        obtain ⟨o, ws, e, r⟩ := rm.obj _ _ hm
        cases kyOf_rel rx hk
        exact .inl ⟨_, _, ry.2, .inl ⟨ws, k, .inr ⟨o, e⟩, rfl, rfl⟩, (valV_keys r.1 k).symm⟩
      · cases h
    · exact .inr (hS h)
    · exact .inr (hS h)
    · cases h
  | _ => cases h
theorem op_inDict (hu : X.A.units + 1 < cLine) : OpR X (compareOp .In) (fun y x H Q => ∃ a o, x = .ref a ∧ DGet H a y o ∧ Q (.bl o.isSome) H) := by
  intro pins s σ H y x iv u Q I ry rx h
  obtain ⟨a, o, rfl, g, q⟩ := h
  obtain rfl : u = Value.ref a := rx
  exact d_in hu I g ry fun s3 I3 => ⟨.bl o.isSome, H, I3, rfl, q⟩
theorem op_notInDict (hu : X.A.units + 1 < cLine) : OpR X (compareOp .NotIn) (fun y x H Q => ∃ a o, x = .ref a ∧ DGet H a y o ∧ Q (.bl (!o.isSome)) H) := by
  intro pins s σ H y x iv u Q I ry rx h
  obtain ⟨a, o, rfl, g, q⟩ := h
  obtain rfl : u = Value.ref a := rx
  exact d_notIn hu I g ry fun s3 I3 => ⟨.bl (!o.isSome), H, I3, rfl, q⟩
/-- comparisons -/
theorem cmp_ok (hK : X.K = T.K) (hu : X.A.units + 65 < cLine) (c : Ev.Cm) : OpR X (compareOp (cmOf c)) (V2 T (Ev.cmpV c)) := by
  cases c with
  | eq =>
    refine OpR.imp (OpR.or (op_eqD (by omega)) (EvM.op_eqDI (by omega))) fun v u H Q ⟨x, y, m, φ, rm, rx, ry, h⟩ => ?_
    unfold Ev.cmpV Ev.ofB at h
    simp only at h
    cases e : Ev.eqV x y m with
    | none => rw [e] at h; exact h.elim
    | some b =>
      rw [e] at h
      rcases eqV_rel rm rx ry e with ⟨d, f, a1, a2, a3, a4, rfl⟩ | ⟨rfl, a, i, kvs, e1, e2, e3⟩
      · rw [hK]
        exact .inl ⟨d, f, a1, a2, a3, a4, h.now rm rfl⟩
      · exact .inr ⟨a, i, kvs, e1, e2, e3, h.now rm rfl⟩
  | ne =>
    refine OpR.imp (OpR.or (op_neD (by omega)) (EvM.op_neDI (by omega))) fun v u H Q ⟨x, y, m, φ, rm, rx, ry, h⟩ => ?_
    unfold Ev.cmpV Ev.ofB at h
    simp only at h
    cases e : Ev.eqV x y m with
    | none => rw [e] at h; exact h.elim
    | some b =>
      rw [e] at h
      rcases eqV_rel rm rx ry e with ⟨d, f, a1, a2, a3, a4, rfl⟩ | ⟨rfl, a, i, kvs, e1, e2, e3⟩
      · rw [hK]
        exact .inl ⟨d, f, a1, a2, a3, a4, h.now rm rfl⟩
      · exact .inr ⟨a, i, kvs, e1, e2, e3, h.now rm rfl⟩
  | lt => exact cmp_int op_lt fun x y m => rfl
  | le => exact cmp_int op_le fun x y m => rfl
  | gt => exact cmp_int op_gt fun x y m => rfl
  | ge => exact cmp_int op_ge fun x y m => rfl
  | is =>
    refine OpR.imp (OpR.or op_isN op_is_bl) fun v u H Q ⟨x, y, m, φ, rm, rx, ry, h⟩ => ?_
    cases y with
    | non =>
      cases ry
      refine .inl ⟨rfl, ?_⟩
      rw [is_non rx]
      cases x <;> exact h.now rm rfl
    | bl b =>
      cases x with
      | bl a => cases rx; cases ry; exact .inr ⟨a, b, rfl, rfl, h.now rm rfl⟩
      | _ => exact h.elim
    | _ => cases x <;> exact h.elim
  | isnot =>
    refine OpR.imp (OpR.or op_notN op_isnot_bl) fun v u H Q ⟨x, y, m, φ, rm, rx, ry, h⟩ => ?_
    cases y with
    | non =>
      cases ry
      refine .inl ⟨rfl, ?_⟩
      rw [is_non rx]
      cases x <;> exact h.now rm rfl
    | bl b =>
      cases x with
      | bl a => cases rx; cases ry; exact .inr ⟨a, b, rfl, rfl, h.now rm rfl⟩
      | _ => exact h.elim
    | _ => cases x <;> exact h.elim
  | inn =>
    refine OpR.imp (OpR.or (op_inDict (by omega)) (op_inD hu)) fun v u H Q ⟨x, y, m, φ, rm, rx, ry, h⟩ => ?_
    unfold Ev.cmpV Ev.ofB at h
    simp only at h
    cases e : Ev.inV x y m with
    | none => rw [e] at h; exact h.elim
    | some b =>
      rw [e] at h
      rcases inV_rel rm rx ry e with ⟨a, o, e1, g, rfl⟩ | ⟨d, ds, a1, a2, a3, a4, rfl⟩
      · exact .inl ⟨a, o, e1, g, h.now rm rfl⟩
      · refine .inr ?_
        rw [hK]
        exact ⟨d, ds, a1, a2, a3, a4, h.now rm rfl⟩
  | notin =>
    refine OpR.imp (OpR.or (op_notInDict (by omega)) (op_notInD hu)) fun v u H Q ⟨x, y, m, φ, rm, rx, ry, h⟩ => ?_
    unfold Ev.cmpV Ev.ofB at h
    simp only at h
    cases e : Ev.inV x y m with
    | none => rw [e] at h; exact h.elim
    | some b =>
      rw [e] at h
      rcases inV_rel rm rx ry e with ⟨a, o, e1, g, rfl⟩ | ⟨d, ds, a1, a2, a3, a4, rfl⟩
      · exact .inl ⟨a, o, e1, g, h.now rm rfl⟩
      · refine .inr ?_
        rw [hK]
        exact ⟨d, ds, a1, a2, a3, a4, h.now rm rfl⟩
/-! ### truth -/
theorem isE_len {α β : Type} {xs : List α} {ys : List β} (h : xs.length = ys.length) : xs.isEmpty = ys.isEmpty := by
  cases xs <;> cases ys
  · rfl
  · simp at h
  · simp at h
  · rfl
theorem RKs.length {φ : Nat → Addr} {n : Nat} {H : Hp} {kvs : List (Ky × D)} {ws : List (Key × V)} (h : RKs T φ n H kvs ws) : ws.length = kvs.length := by
  have := congrArg List.length h.1
  simpa using this
theorem truth_ok {φ : Nat → Addr} {m : Mem} {H : Hp} {x : D} {v : V} {b : Bool} (rm : RM T φ m H) (r : RD T φ m.length H x v) (h : Ev.truth x m = some b) : TruV T.K v H b := by
  cases x with
  | non => cases h; cases r; rfl
  | bl b => cases h; cases r; rfl
  | int i => cases h; cases r; rfl
  | str s =>
    cases r
    unfold Ev.truth at h
    simp only at h
    split at h
    · rename_i hz; cases h; exact ⟨by rw [← line_eq]; exact hz, rfl⟩
    · cases h
  | tup xs =>
    cases h
    obtain ⟨p, vs, rfl, q, r⟩ := r
    exact .inr (.inl ⟨vs, q, by rw [isE_len r.length]⟩)
  | obj a =>
    obtain ⟨ha, rfl⟩ := r
    unfold Ev.truth at h
    simp only at h
    split at h
    · rename_i hm
      cases h
      obtain ⟨_, vs, e, r⟩ := lst_at rm hm
      exact .inl ⟨vs, .of e, by rw [isE_len r.length]⟩
    · rename_i hm
      cases h
      obtain ⟨o, vs, e, r⟩ := fro_at rm hm
      exact .inl ⟨vs, .inl (.inr ⟨o, e⟩), by rw [isE_len r.length]⟩
    · rename_i hm
      cases h
      obtain ⟨ws, e, r⟩ := rm.obj _ _ hm
      exact .inr (.inr ⟨ws, e, by rw [isE_len (RKs.length r)]⟩)
    · cases h
  | fn i => cases h

/-! ### subscripts -/
theorem atI_rel {φ : Nat → Addr} {n : Nat} {H : Hp} {xs : List D} {vs : List V} {j : Int} {d : D} (r : RDs T φ n H xs vs) (h : (Ev.atIx xs.length j).bind (xs[·]?) = some d) : ∃ v, atI vs j = some v ∧ RD T φ n H d v := by
  cases e : Ev.atIx xs.length j with
  | none => rw [e] at h; cases h
  | some k =>
    rw [e] at h
    obtain ⟨v, e1, q⟩ := r.get h
    refine ⟨v, ?_, q⟩
    have e2 : ixN vs.length j = some k := by rw [r.length]; exact e
    unfold atI
    rw [e2]
    exact e1
theorem IxR.imp {r r' : R2} (h : IxR X r) (q : ∀ x y H Q, r' x y H Q → r x y H Q) : IxR X r' := fun value slice pins s σ H x y v u Q I rx ry h' => h value slice pins s σ H x y v u Q I rx ry (q _ _ _ _ h')
theorem idx_ok (hK : X.K = T.K) : IxR X (V2 T Ev.idxV) := by
  refine IxR.imp (ix_list.or ix_tup) fun v u H Q ⟨x, y, m, φ, rm, rx, ry, h⟩ => ?_
  unfold Ev.idxV at h
  split at h
  · rename_i xs j e1
    split at h
    · rename_i d e2
      cases ry
      obtain ⟨p, vs, rfl, hq, r⟩ := seq_at rm e1 rx
      obtain ⟨w, e3, q⟩ := atI_rel r e2
      rw [hK]
      rcases hq with hq | hq
      · exact .inl ⟨p, vs, j, w, rfl, rfl, hq, e3, h.now rm q⟩
      · exact .inr ⟨p, vs, j, w, rfl, rfl, hq, e3, h.now rm q⟩
    · exact h.elim
  · exact h.elim

/-! ### built-in functions -/
def bltOf : Ev.Blt → Value
  | .len => .builtin "len" | .abs => .builtin "abs" | .int => .type "int" | .max2 => .builtin "max" | .min2 => .builtin "min" | .list => .type "list" | .tuple => .type "tuple" | .sum => .builtin "sum"
theorem RDs.one_inv {φ : Nat → Addr} {n : Nat} {H : Hp} {x : D} {vs : List V} (r : RDs T φ n H [x] vs) : ∃ v, vs = [v] ∧ RD T φ n H x v := by
  obtain ⟨v, r', rfl, q, e⟩ := r
  cases e
  exact ⟨v, rfl, q⟩
theorem RDs.two_inv {φ : Nat → Addr} {n : Nat} {H : Hp} {x y : D} {vs : List V} (r : RDs T φ n H [x, y] vs) : ∃ v u, vs = [v, u] ∧ RD T φ n H x v ∧ RD T φ n H y u := by
  obtain ⟨v, r', rfl, q, r2⟩ := r
  obtain ⟨u, rfl, q2⟩ := RDs.one_inv r2
  exact ⟨v, u, rfl, q, q2⟩
theorem allInt_rel {φ : Nat → Addr} {n : Nat} {H : Hp} : ∀ {xs : List D} {ns : List Int} {vs : List V}, Ev.allInt xs = some ns → RDs T φ n H xs vs → vs = ns.map V.int
  | [], ns, vs, h, r => by cases h; cases r; rfl
  | x :: xs, ns, vs, h, r => by
    obtain ⟨v, r', rfl, r1, r2⟩ := r
    unfold Ev.allInt Ev.mapO at h
    cases x with
    | int i =>
      simp only [Ev.intOf] at h
      cases e : Ev.mapO Ev.intOf xs with
      | none => rw [e] at h; cases h
      | some zs =>
        rw [e] at h
        cases h
        cases r1
        rw [allInt_rel e r2]
        rfl
    | _ => cases h
/-- len of a dict that may be read alone -/
theorem call_lenR : CallR X (.builtin "len") (fun xs H Q => ∃ a kvs, xs = [V.ref a] ∧ Rd H a (.dK kvs) ∧ Q (.int kvs.length) H) := by
  intro pins s σ H xs us Q I r h
  obtain ⟨a, kvs, rfl, ha, q⟩ := h
  obtain ⟨u, rfl, ru⟩ := vals1 r
  cases ru
  exact d_len I ha fun t s' I' => ⟨.int kvs.length, H, I', ⟨t, rfl⟩, q⟩
def hotB : Ev.Blt → Bool
  | .max2 => false | .min2 => false | .sum => false | _ => true
theorem blt_ok (hK : X.K = T.K) (b : Ev.Blt) (hc : hotB b = false → X.calm = true) : CallR X (bltOf b) (VN T (Ev.bltV b)) := by
  cases b with
  | len =>
    refine CallR.imp (CallR.or call_len_seq (CallR.or call_len_str call_lenR)) fun vs H Q ⟨xs, m, φ, rm, rs, h⟩ => ?_
    unfold Ev.bltV at h
    split at h <;> first | exact h.elim | contradiction | skip
    · rename_i s _
      obtain ⟨v, rfl, q⟩ := RDs.one_inv rs
      cases q
      split at h
      · rename_i hz
        exact .inr (.inl ⟨s, rfl, by rw [← line_eq]; exact hz, h.now rm rfl⟩)
      · exact h.elim
    · obtain ⟨v, rfl, q⟩ := RDs.one_inv rs
      obtain ⟨p, ws, rfl, hq, r⟩ := q
      rw [hK]
      refine .inl ⟨p, ws, rfl, .inr hq, ?_⟩
      rw [r.length]
      exact h.now rm rfl
    · obtain ⟨v, rfl, q⟩ := RDs.one_inv rs
      obtain ⟨_, rfl⟩ := q
      rw [hK]
      split at h
      · rename_i hm
        obtain ⟨_, ws, e, r⟩ := lst_at rm hm
        refine .inl ⟨_, ws, rfl, .inl (.of e), ?_⟩
        rw [r.length]
        exact h.now rm rfl
      · rename_i hm
        obtain ⟨o, ws, e, r⟩ := fro_at rm hm
        refine .inl ⟨_, ws, rfl, .inl (.inl (.inr ⟨o, e⟩)), ?_⟩
        rw [r.length]
        exact h.now rm rfl
      · rename_i hm
        obtain ⟨ws, e, r⟩ := rm.obj _ _ hm
        refine .inr (.inr ⟨_, ws, rfl, .inl e, ?_⟩)
        rw [RKs.length r]
        exact h.now rm rfl
      · rename_i hm
        obtain ⟨o, ws, e, r⟩ := rm.obj _ _ hm
        refine .inr (.inr ⟨_, ws, rfl, .inr ⟨o, e⟩, ?_⟩)
        rw [RKs.length r]
        exact h.now rm rfl
      · exact h.elim
  | abs =>
    refine CallR.imp call_abs fun vs H Q ⟨xs, m, φ, rm, rs, h⟩ => ?_
    unfold Ev.bltV at h
    split at h <;> first | exact h.elim | contradiction | skip
    obtain ⟨v, rfl, q⟩ := RDs.one_inv rs
    cases q
    exact ⟨_, rfl, h.now rm rfl⟩
  | int =>
    refine CallR.imp call_int1 fun vs H Q ⟨xs, m, φ, rm, rs, h⟩ => ?_
    unfold Ev.bltV at h
    split at h <;> first | exact h.elim | contradiction | skip
    · obtain ⟨v, rfl, q⟩ := RDs.one_inv rs
      cases q
      exact .inl ⟨_, rfl, h.now rm rfl⟩
    · obtain ⟨v, rfl, q⟩ := RDs.one_inv rs
      cases q
      exact .inr ⟨_, rfl, h.now rm rfl⟩
  | max2 =>
    refine CallR.imp (call_max2 (hc rfl)) fun vs H Q ⟨xs, m, φ, rm, rs, h⟩ => ?_
    unfold Ev.bltV at h
    split at h <;> first | exact h.elim | contradiction | skip
    obtain ⟨v, u, rfl, q, q2⟩ := RDs.two_inv rs
    cases q
    cases q2
    exact ⟨_, _, rfl, h.now rm rfl⟩
  | min2 =>
    refine CallR.imp (call_min2 (hc rfl)) fun vs H Q ⟨xs, m, φ, rm, rs, h⟩ => ?_
    unfold Ev.bltV at h
    split at h <;> first | exact h.elim | contradiction | skip
    obtain ⟨v, u, rfl, q, q2⟩ := RDs.two_inv rs
    cases q
    cases q2
    exact ⟨_, _, rfl, h.now rm rfl⟩
  | list =>
    refine CallR.imp call_list_of fun vs H Q ⟨xs, m, φ, rm, rs, h⟩ => ?_
    unfold Ev.bltV at h
    split at h <;> first | exact h.elim | contradiction | skip
    obtain ⟨v, rfl, q⟩ := RDs.one_inv rs
    split at h
    · rename_i ys e1
      obtain ⟨p, ws, rfl, hq, r⟩ := seq_at rm e1 q
      rw [hK]
      exact ⟨p, ws, rfl, hq, h.newL rm r⟩
    · exact h.elim
  | tuple =>
    refine CallR.imp call_tuple_of fun vs H Q ⟨xs, m, φ, rm, rs, h⟩ => ?_
    unfold Ev.bltV at h
    split at h <;> first | exact h.elim | contradiction | skip
    · obtain ⟨v, rfl, q⟩ := RDs.one_inv rs
      rw [hK]
      have q' := q
      obtain ⟨p, ws, rfl, hq, r⟩ := q'
      exact ⟨p, ws, rfl, .inr ⟨hq, h.now rm q⟩⟩
    · obtain ⟨v, rfl, q⟩ := RDs.one_inv rs
      rw [hK]
      split at h
      · rename_i ys e1
        obtain ⟨ws, rfl, hq, r⟩ := seqL_at rm e1 q
        exact ⟨_, ws, rfl, .inl ⟨hq, h.newT rm r⟩⟩
      · exact h.elim
  | sum =>
    refine CallR.imp (cr_sum (hc rfl)) fun vs H Q ⟨xs, m, φ, rm, rs, h⟩ => ?_
    unfold Ev.bltV at h
    split at h <;> first | exact h.elim | contradiction | skip
    obtain ⟨v, rfl, q⟩ := RDs.one_inv rs
    rw [hK]
    split at h
    · rename_i ns e
      obtain ⟨ys, e1, e2⟩ := Option.bind_eq_some_iff.mp e
      obtain ⟨ws, rfl, hq, r⟩ := seqL_at rm e1 q
      rw [allInt_rel e2 r] at hq
      exact ⟨_, ns, rfl, hq, h.now rm rfl⟩
    · exact h.elim
end
end EvB
set_option linter.all false
set_option maxRecDepth 100000
set_option maxHeartbeats 4000000
/-! EvB3: isinstance, methods, a[i] = v, slices. -/
namespace EvB
open PySem PySem.Spec PyProof.Rows L2
open Ev (D Ob Mem Rs Lc Ky)
section
variable {T : Tb} {X : Cx}

/-! ### isinstance -/
def tyName : Ev.Ty → String
  | .int => "int" | .bool => "bool" | .str => "str" | .tuple => "tuple" | .list => "list" | .dict => "dict"
theorem ty_rel {φ : Nat → Addr} {m : Mem} {H : Hp} {x : D} {v : V} {b : Bool} (rm : RM T φ m H) (r : RD T φ m.length H x v) (h : Ev.tyIs .int x m = some b) :
    ∃ s, TyX T.K H v (.type s) ∧ ∀ t, kitB s (tyName t) = Ev.tyIs t x m := by
  cases x with
  | non => cases r; exact ⟨_, .base .non, fun t => by cases t <;> (show _ = some _; simp only [tyName] <;> decide +kernel)⟩
  | bl b => cases r; exact ⟨_, .base (.bl b), fun t => by cases t <;> (show _ = some _; simp only [tyName] <;> decide +kernel)⟩
  | int i => cases r; exact ⟨_, .base (.int i), fun t => by cases t <;> (show _ = some _; simp only [tyName] <;> decide +kernel)⟩
  | str s => cases r; exact ⟨_, .base (.str s), fun t => by cases t <;> (show _ = some _; simp only [tyName] <;> decide +kernel)⟩
  | tup xs =>
    obtain ⟨p, vs, rfl, q, _⟩ := r
    refine ⟨"tuple", ?_, fun t => by cases t <;> (show _ = some _; simp only [tyName] <;> decide +kernel)⟩
    rcases q with (q | ⟨o, q⟩) | ⟨o, its, n, e, c, _⟩
    · exact .base (.tup q)
    · exact .fTuple q
    · exact .kTuple e c
  | obj a =>
    obtain ⟨ha, rfl⟩ := r
    unfold Ev.tyIs at h
    simp only at h
    cases hm : m[a]? with
    | none => rw [hm] at h; cases h
    | some o =>
      have q := rm.obj _ _ hm
      cases o with
      | lst xs =>
        obtain ⟨vs, e, _⟩ := q
        refine ⟨"list", .base (.lst e), fun t => ?_⟩
        unfold Ev.tyIs
        simp only [hm]
        cases t <;> (show _ = some _; simp only [tyName] <;> decide +kernel)
      | fro xs =>
        obtain ⟨o, vs, e, _⟩ := q
        refine ⟨"list", .base (.frz e), fun t => ?_⟩
        unfold Ev.tyIs
        simp only [hm]
        cases t <;> (show _ = some _; simp only [tyName] <;> decide +kernel)
      | dct xs =>
        obtain ⟨ws, e, _⟩ := q
        refine ⟨"dict", .base (.dK e), fun t => ?_⟩
        unfold Ev.tyIs
        simp only [hm]
        cases t <;> (show _ = some _; simp only [tyName] <;> decide +kernel)
      | fdc xs =>
        obtain ⟨o, ws, e, _⟩ := q
        refine ⟨"dict", .fDict e, fun t => ?_⟩
        unfold Ev.tyIs
        simp only [hm]
        cases t <;> (show _ = some _; simp only [tyName] <;> decide +kernel)
  | fn i => cases h
theorem tyIs_some {x : D} {m : Mem} {b : Bool} (h : Ev.tyIs .int x m = some b) (t : Ev.Ty) : ∃ c, Ev.tyIs t x m = some c := by
  cases x with
  | obj a =>
    unfold Ev.tyIs at h ⊢
    simp only at h ⊢
    cases hm : m[a]? with
    | none => rw [hm] at h; cases h
    | some o => cases o <;> exact ⟨_, rfl⟩
  | fn i => cases h
  | _ => exact ⟨_, rfl⟩
theorem kitAny_ts {K : PySem.W.Frag} {s : String} {x : D} {m : Mem} {b : Bool} (h : Ev.tyIs .int x m = some b) (k : ∀ t, kitB s (tyName t) = Ev.tyIs t x m) : ∀ ts : List Ev.Ty, PySem.W.kitAny K (.type s) (ts.map fun t => .type (tyName t)) = some (ts.any fun t => Ev.tyIs t x m == some true)
  | [] => rfl
  | t :: ts => by
    obtain ⟨c, e⟩ := tyIs_some h t
    have e1 : PySem.W.kitOne K (.type s) (.type (tyName t)) = some c := kit_ty (by rw [k t]; exact e)
    rw [List.map_cons, List.any_cons, e]
    refine kitAny_cons e1 (fun hc => ?_) (fun hc => ?_)
    · subst hc
      rw [kitAny_ts h k ts]
      rfl
    · subst hc
      rfl
theorem clsV_ts : ∀ ts : List Ev.Ty, Paired ClsV (ts.map fun t => V.ty (tyName t)) (ts.map fun t => Value.type (tyName t))
  | [] => .nil
  | t :: ts => .cons (.ty _) (clsV_ts ts)
/-- isinstance(x, t) -/
theorem isi1_ok (hK : X.K = T.K) (t : Ev.Ty) : CallR X (.builtin "isinstance") (fun vs H Q => ∃ x v m φ b, vs = [v, .ty (tyName t)] ∧ RM T φ m H ∧ RD T φ m.length H x v ∧ Ev.tysIs [t] x m = some b ∧ Q (.bl b) H) := by
  refine CallR.imp call_isi fun vs H Q ⟨x, v, m, φ, b, e, rm, r, h, q⟩ => ?_
  unfold Ev.tysIs at h
  split at h
  · cases h
  · rename_i b0 e0
    obtain ⟨s, ty, k⟩ := ty_rel rm r e0
    obtain ⟨c, e1⟩ := tyIs_some e0 t
    cases h
    rw [hK]
    refine ⟨v, _, _, _, _, e, .ty _, ty, kit_ty ((k t).trans e1), ?_⟩
    have e2 : ([t].any fun t => Ev.tyIs t x m == some true) = c := by
      rw [List.any_cons, e1]
      cases c <;> rfl
    rw [e2] at q
    exact q
  -- the last place: kitB's answer is some
theorem isiT_ok (hK : X.K = T.K) (ts : List Ev.Ty) : CallR X (.builtin "isinstance") (fun vs H Q => ∃ x v tp m φ b, vs = [v, .ref tp] ∧ H tp = some (.tup (ts.map fun t => V.ty (tyName t))) ∧ RM T φ m H ∧ RD T φ m.length H x v ∧ Ev.tysIs ts x m = some b ∧ Q (.bl b) H) := by
  refine CallR.imp call_isiT fun vs H Q ⟨x, v, tp, m, φ, b, e, hT, rm, r, h, q⟩ => ?_
  unfold Ev.tysIs at h
  split at h
  · cases h
  · rename_i b0 e0
    obtain ⟨s, ty, k⟩ := ty_rel rm r e0
    cases h
    rw [hK]
    exact ⟨v, tp, _, _, _, _, e, hT, clsV_ts ts, ty, kitAny_ts e0 k ts, q⟩

/-! ### methods -/
def VM (T : Tb) (t : Ev.Mth) : V → List V → Hp → VK → Prop := fun v vs H Q => ∃ x xs m φ, RM T φ m H ∧ RD T φ m.length H x v ∧ RDs T φ m.length H xs vs ∧ Ok T φ m H (Ev.mthV t x xs m) Q
def mthId : Ev.Mth → String
  | .append => "list.append" | .pop1 => "list.pop"
theorem lst_write {φ : Nat → Addr} {m : Mem} {H : Hp} (rm : RM T φ m H) {a : Nat} (ha : a < m.length) (hz : ∀ o w, H (φ a) ≠ some (.frz o w)) {ds : List D} {vs : List V} (r : RDs T φ m.length H ds vs) : RO T φ m.length (upd H (φ a) (.lst vs)) (.lst ds) (φ a) := by
  have x := ext_write (u := HO.lst vs) rm ha hz (.lst ds)
  rw [List.length_set] at x
  exact ⟨vs, upd_same, r.ext rm x⟩
theorem mth_ok (t : Ev.Mth) : MtM X (mthId t) (VM T t) := by
  cases t with
  | append =>
    intro pins s σ H v vs u us Q I ru rus ⟨x, xs, m, φ, rm, rx, rxs, h⟩
    refine mt_append pins s σ H v vs u us Q I ru rus ?_
    unfold Ev.mthV at h
    split at h
    · rename_i a
      split at h <;> first | exact h.elim | contradiction | skip
      rename_i ys y hm _
      split at h
      · rename_i hz
        obtain ⟨ha, ws, e, r⟩ := lst_at rm hm
        obtain ⟨_, rfl⟩ := rx
        obtain ⟨w, rfl, q⟩ := RDs.one_inv rxs
        refine ⟨_, ws, w, rfl, rfl, e, by rw [r.length, ← line_eq]; exact hz, ?_⟩
        exact h.wr rm ha (by rw [e]; simp) (lst_write rm ha (by rw [e]; simp) (r.append (.one q))) rfl
      · exact h.elim
    · exact h.elim
  | pop1 =>
    intro pins s σ H v vs u us Q I ru rus ⟨x, xs, m, φ, rm, rx, rxs, h⟩
    refine mt_popAt pins s σ H v vs u us Q I ru rus ?_
    unfold Ev.mthV at h
    split at h
    · rename_i a
      split at h <;> first | exact h.elim | contradiction | skip
      rename_i ys i hm _
      split at h
      · rename_i k hk
        split at h
        · rename_i d hd
          obtain ⟨ha, ws, e, r⟩ := lst_at rm hm
          obtain ⟨_, rfl⟩ := rx
          obtain ⟨w, rfl, q⟩ := RDs.one_inv rxs
          cases q
          obtain ⟨w, ew, rw'⟩ := r.get hd
          have hl := (I.lstM e).1
          have hn := line63
          obtain ⟨h1, h2, h3, h4⟩ := ixN_seq (n := ws.length) (i := i) (j := k) (by rw [r.length]; exact hk)
          refine ⟨_, ws, i, k, w, rfl, rfl, e, by omega, by omega, h1, ew, ?_⟩
          exact h.wr rm ha (by rw [e]; simp) (lst_write rm ha (by rw [e]; simp) (r.eraseIdx k)) rw'
        · exact h.elim
      · exact h.elim
    · exact h.elim
theorem mth_ty {φ : Nat → Addr} {m : Mem} {H : Hp} {t : Ev.Mth} {x : D} {v : V} {xs : List D} (rm : RM T φ m H) (rx : RD T φ m.length H x v) (h : Ev.mthV t x xs m ≠ .stuck) : tyV T.K "list" v H := by
  unfold Ev.mthV at h
  split at h
  · rename_i a
    obtain ⟨_, rfl⟩ := rx
    split at h
    · rename_i hm
      obtain ⟨_, ws, e, r⟩ := lst_at rm hm
      exact .inl ⟨rfl, ws, .of e⟩
    · rename_i hm
      obtain ⟨_, ws, e, r⟩ := lst_at rm hm
      exact .inl ⟨rfl, ws, .of e⟩
    · exact absurd rfl h
  · exact absurd rfl h

/-! ### a[i] = v -/
theorem put_ok : PSet X (fun o i v H Q => ∃ x y z m φ m', RM T φ m H ∧ RD T φ m.length H x o ∧ RD T φ m.length H y i ∧ RD T φ m.length H z v ∧ Ev.putV x y z m = some m' ∧ ∀ φ' H', Ext φ m.length H φ' m'.length H' → RM T φ' m' H' → Q H') := by
  intro pins s σ H o i v ov iv u Q I ro ri rv ⟨x, y, z, m, φ, m', rm, rx, ry, rz, h, q⟩
  refine set_list pins s σ H o i v ov iv u Q I ro ri rv ?_
  unfold Ev.putV at h
  split at h
  · rename_i a j
    split at h
    · rename_i xs hm
      split at h
      · rename_i k hk
        cases h
        obtain ⟨ha, ws, e, r⟩ := lst_at rm hm
        obtain ⟨_, rfl⟩ := rx
        cases ry
        refine ⟨_, ws, j, k, rfl, rfl, e, by rw [r.length]; exact hk, ?_⟩
        exact q φ _ (ext_write rm ha (by rw [e]; simp) _) (rm.write ha (by rw [e]; simp) (lst_write rm ha (by rw [e]; simp) (r.set k rz)))
      · cases h
    · cases h
  · cases h

/-! ### x[lo:hi] -/
theorem sIx_eq : ∀ (n d : Nat) (o : Option Int), HT.sIx n d o = Ev.sIxD n d o
  | _, _, none => rfl
  | _, _, some _ => rfl
theorem cut_rel {φ : Nat → Addr} {n : Nat} {H : Hp} {ds : List D} {vs : List V} (r : RDs T φ n H ds vs) (lo hi : Option Int) : RDs T φ n H (Ev.cutD ds lo hi) (cutV vs lo hi) := by
  unfold Ev.cutD cutV
  rw [sIx_eq, sIx_eq, r.length]
  exact (r.drop _).take _
theorem SlR.imp {r r' : V → Option Int → Option Int → Hp → VK → Prop} (h : SlR X r) (q : ∀ x lo hi H Q, r' x lo hi H Q → r x lo hi H Q) : SlR X r' := fun pins s σ H x v vl vu lo hi sl Q I rx hs pl pu h' => h pins s σ H x v vl vu lo hi sl Q I rx hs pl pu (q _ _ _ _ _ h')
theorem cutD_all {xs : List D} {lo hi : Option Int} (h : Ev.sIxD xs.length 0 lo = 0 ∧ Ev.sIxD xs.length xs.length hi = xs.length) : Ev.cutD xs lo hi = xs := by
  unfold Ev.cutD
  rw [h.1, h.2]
  simp
theorem slc_ok (hK : X.K = T.K) : SlR X (fun v lo hi H Q => ∃ x m φ, RM T φ m H ∧ RD T φ m.length H x v ∧ Ok T φ m H (Ev.slcV x lo hi m) Q) := by
  refine SlR.imp (sl_list.or sl_tupA) fun v lo hi H Q ⟨x, m, φ, rm, rx, h⟩ => ?_
  unfold Ev.slcV at h
  rw [hK]
  cases x with
  | tup xs =>
    simp only at h
    have rx' := rx
    obtain ⟨p, vs, rfl, hq, r⟩ := rx'
    refine .inr ⟨p, vs, rfl, hq, fun hw => ?_, fun hw => ?_⟩
    · rw [sIx_eq, sIx_eq, r.length] at hw
      rw [cutD_all hw] at h
      exact h.now rm rx
    · exact h.newT rm (cut_rel r lo hi)
  | obj a =>
    obtain ⟨_, rfl⟩ := rx
    simp only at h
    split at h
    · rename_i hm
      obtain ⟨_, ws, e, r⟩ := lst_at rm hm
      exact .inl ⟨_, ws, rfl, .of e, h.newL rm (cut_rel r lo hi)⟩
    · rename_i hm
      obtain ⟨o, ws, e, r⟩ := fro_at rm hm
      exact .inl ⟨_, ws, rfl, .inl (.inr ⟨o, e⟩), h.newL rm (cut_rel r lo hi)⟩
    · exact h.elim
  | _ => exact h.elim
end
end EvB
set_option linter.all false
set_option maxRecDepth 100000
set_option maxHeartbeats 4000000
/-! EvB4: readings: what an expression's evaluation promises. -/
namespace L2
open PySem PySem.Spec PyProof.Rows
theorem PE.wk {X : Cx} {e : Expr} {t t' : TE} (h : PE X e t) (k : ∀ σ H Q, t' σ H Q → t σ H Q) : PE X e t' := ⟨fun pins s σ H Q I q => h.run pins s σ H Q I (k _ _ _ q)⟩
theorem PT.wk {X : Cx} {e : Expr} {t t' : TT} (h : PT X e t) (k : ∀ σ H Q, t' σ H Q → t σ H Q) : PT X e t' := ⟨fun pins s σ H Q I q => h.run pins s σ H Q I (k _ _ _ q)⟩
theorem PW.wk {X : Cx} {e : Expr} {t t' : TT} (h : PW X e t) (k : ∀ σ H Q, t' σ H Q → t σ H Q) : PW X e t' := ⟨fun wh pins s σ H Q I q => h.run wh pins s σ H Q I (k _ _ _ q)⟩
theorem PA.wk {X : Cx} {e : List Expr} {t t' : TA} (h : PA X e t) (k : ∀ σ H Q, t' σ H Q → t σ H Q) : PA X e t' := ⟨fun pos pins s σ H Q I q => h.run pos pins s σ H Q I (k _ _ _ q)⟩
theorem PK.wk {X : Cx} {e : List Keyword} {t t' : TA} (h : PK X e t) (k : ∀ σ H Q, t' σ H Q → t σ H Q) : PK X e t' := ⟨fun pos pins s σ H Q I q => h.run pos pins s σ H Q I (k _ _ _ q)⟩
end L2
namespace EvB
open PySem PySem.Spec PyProof.Rows L2
open Ev (D Ob Mem Rs Lc Ky Cur)

/-- a result of any kind: Q takes the value, QX the exception -/
def OkE (T : Tb) {α β : Type} (rel : (Nat → Addr) → Nat → Hp → α → β → Prop) (φ : Nat → Addr) (m : Mem) (H : Hp) (r : Rs α) (Q : β → Hp → Prop) (QX : XK) : Prop := match r with
  | .ok a m' => ∀ φ' H' b, Ext φ m.length H φ' m'.length H' → RM T φ' m' H' → rel φ' m'.length H' a b → Q b H'
  | .exc c fs m' => ∀ φ' H' dx, Ext φ m.length H φ' m'.length H' → RM T φ' m' H' → XD T c φ' m'.length H' fs dx → QX (.ref (T.ca c)) dx H'
  | .stuck => False
abbrev OkD (T : Tb) := OkE T (RD T)
abbrev OkDs (T : Tb) := OkE T (RDs T)
abbrev OkB (T : Tb) := OkE T (fun _ _ _ (a b : Bool) => a = b)
section
variable {T : Tb} {α β γ δ : Type} {rel : (Nat → Addr) → Nat → Hp → α → β → Prop} {rel2 : (Nat → Addr) → Nat → Hp → γ → δ → Prop} {φ φ' : Nat → Addr} {m m' : Mem} {H H' : Hp} {QX : XK}
/-- from a later state -/
theorem OkE.rebase {r : Rs α} {Q : β → Hp → Prop} (h : OkE T rel φ m H r Q QX) (x : Ext φ m.length H φ' m'.length H') : OkE T rel φ' m' H' r Q QX := by
  cases r with
  | ok a m1 => exact fun φ1 H1 b e1 rm1 q => h φ1 H1 b (x.trans e1) rm1 q
  | exc c fs m1 => exact fun φ1 H1 dx e1 rm1 q => h φ1 H1 dx (x.trans e1) rm1 q
  | stuck => exact h
theorem OkE.bind {r : Rs α} {f : α → Mem → Rs γ} {Q : δ → Hp → Prop} {Q1 : β → Hp → Prop} (h : OkE T rel2 φ m H (r.bind f) Q QX)
    (k : ∀ a m' φ' H' b, Ext φ m.length H φ' m'.length H' → RM T φ' m' H' → rel φ' m'.length H' a b → OkE T rel2 φ' m' H' (f a m') Q QX → Q1 b H') : OkE T rel φ m H r Q1 QX := by
  cases r with
  | ok a m1 => exact fun φ1 H1 b e1 rm1 q => k a m1 φ1 H1 b e1 rm1 q (OkE.rebase (m' := m1) h e1)
  | exc c fs m1 => exact h
  | stuck => exact h
theorem OkE.imp {r : Rs α} {Q Q' : β → Hp → Prop} (h : OkE T rel φ m H r Q QX) (k : ∀ a m' φ' H' b, Ext φ m.length H φ' m'.length H' → RM T φ' m' H' → rel φ' m'.length H' a b → Q b H' → Q' b H') : OkE T rel φ m H r Q' QX := by
  cases r with
  | ok a m1 => exact fun φ1 H1 b e1 rm1 q => k a m1 φ1 H1 b e1 rm1 q (h φ1 H1 b e1 rm1 q)
  | exc c fs m1 => exact h
  | stuck => exact h
theorem OkE.now {a : α} {b : β} {Q : β → Hp → Prop} (rm : RM T φ m H) (h : OkE T rel φ m H (.ok a m) Q QX) (q : rel φ m.length H a b) : Q b H := h φ H b .refl rm q
theorem OkE.plain {r : Rs D} {Q : VK} (h : OkD T φ m H r Q QX) (hn : ∀ c fs m', r ≠ .exc c fs m') : Ok T φ m H r Q := by
  cases r with
  | ok a m1 => exact h
  | exc c fs m1 => exact absurd rfl (hn c fs m1)
  | stuck => exact h
end

/-! ### what never lets an exception out -/
theorem ofB_nx {b : Option Bool} {m : Mem} : ∀ c fs m', Ev.ofB b m ≠ .exc c fs m' := by
  intro c fs m'; unfold Ev.ofB; split <;> simp
theorem op2_nx {o : Ev.Op2} {x y : D} {m : Mem} : ∀ c fs m', Ev.op2 o x y m ≠ .exc c fs m' := by
  intro c fs m'
  cases x <;> cases y <;> first | (cases o <;> simp [Ev.op2] <;> (repeat' split) <;> simp) | simp [Ev.op2]
theorem cmpV_nx {o : Ev.Cm} {x y : D} {m : Mem} : ∀ c fs m', Ev.cmpV o x y m ≠ .exc c fs m' := by
  intro c fs m'
  cases o <;> unfold Ev.cmpV <;> simp only <;> first | exact ofB_nx _ _ _ | (split <;> simp)
theorem idxV_nx {x y : D} {m : Mem} : ∀ c fs m', Ev.idxV x y m ≠ .exc c fs m' := by
  intro c fs m'; unfold Ev.idxV; (repeat' split) <;> simp
theorem newLst_nx {xs : List D} {m : Mem} : ∀ c fs m', Ev.newLst xs m ≠ .exc c fs m' := by
  intro c fs m'; unfold Ev.newLst; simp
theorem bltV_nx {b : Ev.Blt} {xs : List D} {m : Mem} : ∀ c fs m', Ev.bltV b xs m ≠ .exc c fs m' := by
  intro c fs m'; unfold Ev.bltV; (repeat' split) <;> first | (simp; done) | exact newLst_nx _ _ _
theorem mthV_nx {t : Ev.Mth} {x : D} {xs : List D} {m : Mem} : ∀ c fs m', Ev.mthV t x xs m ≠ .exc c fs m' := by
  intro c fs m'; unfold Ev.mthV; (repeat' split) <;> simp
theorem slcV_nx {x : D} {l h : Option Int} {m : Mem} : ∀ c fs m', Ev.slcV x l h m ≠ .exc c fs m' := by
  intro c fs m'; unfold Ev.slcV; (repeat' split) <;> first | (simp; done) | exact newLst_nx _ _ _

/-! ### the readings -/
/-- a caught error, in its suite: the object, its class, its dict, the name's slot -/
structure SuR where
  a : Addr
  cls : Value
  d : Option Addr
  j : Option Nat
def CurR (T : Tb) (su : Option SuR) (cur : Cur) (φ : Nat → Addr) (n : Nat) (H : Hp) (σ : L2.St) : Prop := match su with
  | none => True
  | some u => ∃ c fs, cur = some (c, fs) ∧ u.cls = .ref (T.ca c) ∧ XD T c φ n H fs u.d ∧ ∀ i, u.j = some i → σ[i]? = some (some (.ref u.a))
theorem CurR.ext {T : Tb} {su : Option SuR} {cur : Cur} {φ φ' : Nat → Addr} {m : Mem} {n' : Nat} {H H' : Hp} {σ : L2.St} (h : CurR T su cur φ m.length H σ) (r : RM T φ m H) (x : Ext φ m.length H φ' n' H') : CurR T su cur φ' n' H' σ := by
  cases su with
  | none => trivial
  | some u =>
    obtain ⟨c, fs, h1, h2, h3, h4⟩ := h
    exact ⟨c, fs, h1, h2, h3.ext r x, h4⟩
/-- where an evaluation starts -/
structure At (T : Tb) (su : Option SuR) (cur : Cur) (δ : Lc) (m : Mem) (φ : Nat → Addr) (σ : L2.St) (H : Hp) : Prop where
  rm : RM T φ m H
  rl : RL T φ m.length H δ σ
  cu : CurR T su cur φ m.length H σ
theorem At.ext {T : Tb} {su : Option SuR} {cur : Cur} {δ : Lc} {m m' : Mem} {φ φ' : Nat → Addr} {σ : L2.St} {H H' : Hp} (h : At T su cur δ m φ σ H) (x : Ext φ m.length H φ' m'.length H') (rm : RM T φ' m' H') : At T su cur δ m' φ' σ H' := ⟨rm, h.rl.ext h.rm x, h.cu.ext h.rm x⟩
/-- what a result gives: f the evaluation, from any start -/
def rd {α β : Type} (T : Tb) (rel : (Nat → Addr) → Nat → Hp → α → β → Prop) (su : Option SuR) (W : WX) (f : Cur → Lc → Mem → Rs α) : L2.St → Hp → (β → Hp → Prop) → Prop := fun σ H Q =>
  ∃ cur δ m φ, At T su cur δ m φ σ H ∧ OkE T rel φ m H (f cur δ m) Q (WE W σ)
def cfg (T : Tb) (k : Nat) : Ev.Cfg := ⟨Ev.run T.pr k, T.pr.sub, T.pr.fld⟩
def trE (T : Tb) (k : Nat) (su : Option SuR) (W : WX) (e : Ev.E) : TE := rd T (RD T) su W fun cur δ m => Ev.evE (cfg T k) cur δ e m
def trA (T : Tb) (k : Nat) (su : Option SuR) (W : WX) (es : List Ev.E) : TA := rd T (RDs T) su W fun cur δ m => Ev.evEs (cfg T k) cur δ es m
def trT (T : Tb) (k : Nat) (su : Option SuR) (W : WX) (e : Ev.E) : TT := rd T (fun _ _ _ (a b : Bool) => a = b) su W fun cur δ m => Ev.evT (cfg T k) cur δ e m
def ROpt (T : Tb) (φ : Nat → Addr) (n : Nat) (H : Hp) (d : Option D) (i : Option Int) : Prop := ∀ v, d = some v → ∀ w, RD T φ n H v w → ∃ j, w = .int j
/-! ### the constructors' readings, from the parts' -/
section
variable {T : Tb} {k : Nat} {su : Option SuR} {W : WX}
theorem rd_lit {d : D} {v : V} (hv : ∀ φ n H, RD T φ n H d v) {σ : L2.St} {H : Hp} {Q : VK} (h : trE T k su W (.lit d) σ H Q) : tC v σ H Q := by
  obtain ⟨cur, δ, m, φ, a, h⟩ := h
  exact OkE.now a.rm h (hv _ _ _)
theorem rd_var {i : Nat} {σ : L2.St} {H : Hp} {Q : VK} (h : trE T k su W (.var i) σ H Q) : tVar i σ H Q := by
  obtain ⟨cur, δ, m, φ, a, h⟩ := h
  have h : OkD T φ m H (match δ[i]? with | some (some d) => .ok d m | _ => .stuck) Q (WE W σ) := h
  split at h
  · rename_i d e
    obtain ⟨v, ev, q⟩ := a.rl.2 i d e
    exact ⟨v, ev, OkE.now a.rm h q⟩
  · exact h.elim
theorem rd_op2 {r : D → D → Mem → Rs D} {f : Ev.E} {a b : Ev.E} (hf : ∀ cur δ m, Ev.evE (cfg T k) cur δ f m = (Ev.evE (cfg T k) cur δ a m).bind fun x m1 => (Ev.evE (cfg T k) cur δ b m1).bind fun y m2 => r x y m2)
    (hn : ∀ x y m c fs m', r x y m ≠ .exc c fs m') {σ : L2.St} {H : Hp} {Q : VK} (h : trE T k su W f σ H Q) : tOp (V2 T r) (trE T k su W a) (trE T k su W b) σ H Q := by
  obtain ⟨cur, δ, m, φ, a, h⟩ := h
  have h : OkD T φ m H (Ev.evE (cfg T k) cur δ f m) Q (WE W σ) := h
  rw [hf] at h
  refine ⟨cur, δ, m, φ, a, h.bind fun x m1 φ1 H1 v e1 rm1 q1 h1 => ?_⟩
  refine ⟨cur, δ, m1, φ1, a.ext e1 rm1, h1.bind fun y m2 φ2 H2 u e2 rm2 q2 h2 => ?_⟩
  exact ⟨x, y, m2, φ2, rm2, q1.ext rm1 e2, q2, OkE.plain h2 (hn _ _ _)⟩
theorem rd_neg {a : Ev.E} {σ : L2.St} {H : Hp} {Q : VK} (h : trE T k su W (.neg a) σ H Q) : tUn (rU fun i => .int (-i)) (trE T k su W a) σ H Q := by
  obtain ⟨cur, δ, m, φ, a, h⟩ := h
  refine ⟨cur, δ, m, φ, a, OkE.bind h fun x m1 φ1 H1 v e1 rm1 q1 h1 => ?_⟩
  cases x with
  | int i => cases q1; exact ⟨i, rfl, OkE.now rm1 h1 rfl⟩
  | _ => exact h1.elim
/-- a value's truth -/
theorem tru_rel {φ : Nat → Addr} {m : Mem} {H : Hp} {x : D} {v : V} {α β : Type} {rel : (Nat → Addr) → Nat → Hp → α → β → Prop} {f : Bool → Mem → Rs α} {Q : β → Hp → Prop} {QX : XK} (rm : RM T φ m H) (q : RD T φ m.length H x v)
    (h : OkE T rel φ m H ((Ev.tru x m).bind f) Q QX) : ∃ b, TruV T.K v H b ∧ OkE T rel φ m H (f b m) Q QX := by
  unfold Ev.tru at h
  split at h
  · rename_i b e
    exact ⟨b, truth_ok rm q e, h⟩
  · exact h.elim
theorem rd_not {a : Ev.E} {σ : L2.St} {H : Hp} {Q : VK} (h : trE T k su W (.not a) σ H Q) : tNotT T.K (trE T k su W a) σ H Q := by
  obtain ⟨cur, δ, m, φ, a, h⟩ := h
  refine ⟨cur, δ, m, φ, a, OkE.bind h fun x m1 φ1 H1 v e1 rm1 q1 h1 => ?_⟩
  obtain ⟨b, t, h2⟩ := tru_rel rm1 q1 h1
  exact ⟨b, t, OkE.now rm1 h2 rfl⟩
theorem rd_and {a b : Ev.E} {σ : L2.St} {H : Hp} {Q : VK} (h : trE T k su W (.and a b) σ H Q) : tAndT T.K (trE T k su W a) (trE T k su W b) σ H Q := by
  obtain ⟨cur, δ, m, φ, a, h⟩ := h
  refine ⟨cur, δ, m, φ, a, OkE.bind h fun x m1 φ1 H1 v e1 rm1 q1 h1 => ?_⟩
  obtain ⟨b, t, h2⟩ := tru_rel rm1 q1 h1
  refine ⟨b, t, ?_⟩
  cases b with
  | true => exact ⟨cur, δ, m1, φ1, a.ext e1 rm1, h2⟩
  | false => exact OkE.now rm1 h2 q1
theorem rd_or {a b : Ev.E} {σ : L2.St} {H : Hp} {Q : VK} (h : trE T k su W (.or a b) σ H Q) : tOrT T.K (trE T k su W a) (trE T k su W b) σ H Q := by
  obtain ⟨cur, δ, m, φ, a, h⟩ := h
  refine ⟨cur, δ, m, φ, a, OkE.bind h fun x m1 φ1 H1 v e1 rm1 q1 h1 => ?_⟩
  obtain ⟨b, t, h2⟩ := tru_rel rm1 q1 h1
  refine ⟨b, t, ?_⟩
  cases b with
  | true => exact OkE.now rm1 h2 q1
  | false => exact ⟨cur, δ, m1, φ1, a.ext e1 rm1, h2⟩
/-- a test -/
theorem rd_test {e : Ev.E} {σ : L2.St} {H : Hp} {Q : Bool → Hp → Prop} (h : trT T k su W e σ H Q) : trE T k su W e σ H fun x H' => ∃ b, TruV T.K x H' b ∧ Q b H' := by
  obtain ⟨cur, δ, m, φ, a, h⟩ := h
  refine ⟨cur, δ, m, φ, a, OkE.bind h fun x m1 φ1 H1 v e1 rm1 q1 h1 => ?_⟩
  unfold Ev.tru at h1
  split at h1
  · rename_i b e
    exact ⟨b, truth_ok rm1 q1 e, OkE.now rm1 h1 rfl⟩
  · exact h1.elim
theorem tru_bl {K : PySem.W.Frag} {k b : Bool} {H : Hp} (t : TruV K (.bl k) H b) : b = k := t
theorem pt_of {X : Cx} {a : Expr} {e : Ev.E} (hK : X.K = T.K) (h : PE X a (trE T k su W e)) (he : ∀ whole, isTrue a X.env whole = (do let v ← whole; standAt a.pos; holding [v] (truthy v))) : PT X a (trT T k su W e) := by
  refine (pt_truth h he).wk fun σ H Q q => ?_
  rw [hK]
  exact rd_test q
theorem bind_assoc {α β γ : Type} (r : Rs α) (f : α → Mem → Rs β) (g : β → Mem → Rs γ) : (r.bind f).bind g = r.bind fun a m => (f a m).bind g := by cases r <;> rfl
theorem rdT_not {a : Ev.E} {σ : L2.St} {H : Hp} {Q : Bool → Hp → Prop} (h : trT T k su W (.not a) σ H Q) : tNot (trT T k su W a) σ H Q := by
  obtain ⟨cur, δ, m, φ, a, h⟩ := h
  refine ⟨cur, δ, m, φ, a, ?_⟩
  have h : OkB T φ m H (((Ev.evE (cfg T k) cur δ _ m).bind fun x m1 => (Ev.tru x m1).bind fun t m2 => .ok (.bl (!t)) m2).bind fun x m1 => Ev.tru x m1) Q (WE W σ) := h
  show OkB T φ m H ((Ev.evE (cfg T k) cur δ _ m).bind fun x m1 => Ev.tru x m1) _ _
  cases e : Ev.evE (cfg T k) cur δ _ m with
  | ok x m1 =>
    rw [e] at h
    simp only [Rs.bind_ok] at h ⊢
    unfold Ev.tru at h ⊢
    split
    · rename_i b eb
      rw [eb] at h
      exact fun φ' H' c x1 rm q => h φ' H' _ x1 rm (by rw [← q])
    · rename_i eb
      rw [eb] at h
      exact h
  | exc c fs m1 => rw [e] at h; exact h
  | stuck => rw [e] at h; exact h
theorem rdT_and {a b : Ev.E} {σ : L2.St} {H : Hp} {Q : Bool → Hp → Prop} (h : trT T k su W (.and a b) σ H Q) : tAnd (trT T k su W a) (trT T k su W b) σ H Q := by
  obtain ⟨cur, δ, m, φ, at_, h⟩ := h
  refine ⟨cur, δ, m, φ, at_, ?_⟩
  have h : OkB T φ m H (((Ev.evE (cfg T k) cur δ a m).bind fun x m1 => (Ev.tru x m1).bind fun t m2 => (match t with | true => Ev.evE (cfg T k) cur δ b m2 | false => .ok x m2)).bind fun x m1 => Ev.tru x m1) Q (WE W σ) := h
  show OkB T φ m H ((Ev.evE (cfg T k) cur δ a m).bind fun x m1 => Ev.tru x m1) _ _
  cases e : Ev.evE (cfg T k) cur δ a m with
  | ok x m1 =>
    rw [e] at h
    simp only [Rs.bind_ok] at h ⊢
    unfold Ev.tru at h ⊢
    cases eb : Ev.truth x m1 with
    | none => rw [eb] at h; exact h
    | some t =>
      rw [eb] at h
      cases t with
      | true =>
        simp only [Rs.bind_ok] at h
        intro φ' H' c x1 rm q
        subst q
        exact ⟨cur, δ, m1, φ', at_.ext x1 rm, OkE.rebase h x1⟩
      | false =>
        simp only [Rs.bind_ok] at h
        rw [eb] at h
        intro φ' H' c x1 rm q
        subst q
        exact h φ' H' _ x1 rm rfl
  | exc c fs m1 => rw [e] at h; exact h
  | stuck => rw [e] at h; exact h
theorem rdT_or {a b : Ev.E} {σ : L2.St} {H : Hp} {Q : Bool → Hp → Prop} (h : trT T k su W (.or a b) σ H Q) : tOr (trT T k su W a) (trT T k su W b) σ H Q := by
  obtain ⟨cur, δ, m, φ, at_, h⟩ := h
  refine ⟨cur, δ, m, φ, at_, ?_⟩
  have h : OkB T φ m H (((Ev.evE (cfg T k) cur δ a m).bind fun x m1 => (Ev.tru x m1).bind fun t m2 => (match t with | true => .ok x m2 | false => Ev.evE (cfg T k) cur δ b m2)).bind fun x m1 => Ev.tru x m1) Q (WE W σ) := h
  show OkB T φ m H ((Ev.evE (cfg T k) cur δ a m).bind fun x m1 => Ev.tru x m1) _ _
  cases e : Ev.evE (cfg T k) cur δ a m with
  | ok x m1 =>
    rw [e] at h
    simp only [Rs.bind_ok] at h ⊢
    unfold Ev.tru at h ⊢
    cases eb : Ev.truth x m1 with
    | none => rw [eb] at h; exact h
    | some t =>
      rw [eb] at h
      cases t with
      | false =>
        simp only [Rs.bind_ok] at h
        intro φ' H' c x1 rm q
        subst q
        exact ⟨cur, δ, m1, φ', at_.ext x1 rm, OkE.rebase h x1⟩
      | true =>
        simp only [Rs.bind_ok] at h
        rw [eb] at h
        intro φ' H' c x1 rm q
        subst q
        exact h φ' H' _ x1 rm rfl
  | exc c fs m1 => rw [e] at h; exact h
  | stuck => rw [e] at h; exact h
/-- comparisons give bools -/
theorem cmpV_bl {o : Ev.Cm} {x y : D} {m : Mem} : (∃ b, Ev.cmpV o x y m = .ok (.bl b) m) ∨ Ev.cmpV o x y m = .stuck := by
  have hB : ∀ b : Option Bool, (∃ c, Ev.ofB b m = .ok (.bl c) m) ∨ Ev.ofB b m = .stuck := fun b => by cases b with
    | none => exact .inr rfl
    | some c => exact .inl ⟨c, rfl⟩
  cases o <;> unfold Ev.cmpV <;> simp only <;> first | exact hB _ | (split <;> first | exact .inl ⟨_, rfl⟩ | exact .inr rfl)
theorem rdT_cmp {c : Ev.Cm} {a b : Ev.E} {σ : L2.St} {H : Hp} {Q : Bool → Hp → Prop} (h : trT T k su W (.cmp c a b) σ H Q) : tTest (tOp (V2 T (Ev.cmpV c)) (trE T k su W a) (trE T k su W b)) σ H Q := by
  obtain ⟨cur, δ, m, φ, at_, h⟩ := h
  have h : OkB T φ m H (((Ev.evE (cfg T k) cur δ a m).bind fun x m1 => (Ev.evE (cfg T k) cur δ b m1).bind fun y m2 => Ev.cmpV c x y m2).bind fun x m1 => Ev.tru x m1) Q (WE W σ) := h
  rw [bind_assoc] at h
  refine ⟨cur, δ, m, φ, at_, h.bind fun x m1 φ1 H1 v e1 rm1 q1 h1 => ?_⟩
  rw [bind_assoc] at h1
  refine ⟨cur, δ, m1, φ1, at_.ext e1 rm1, h1.bind fun y m2 φ2 H2 u e2 rm2 q2 h2 => ?_⟩
  refine ⟨x, y, m2, φ2, rm2, q1.ext rm1 e2, q2, ?_⟩
  rcases cmpV_bl (o := c) (x := x) (y := y) (m := m2) with ⟨b, e⟩ | e
  · rw [e] at h2 ⊢
    intro φ' H' v' x3 rm3 q3
    cases q3
    exact ⟨b, rfl, h2 φ' H' b x3 rm3 rfl⟩
  · rw [e] at h2
    exact h2.elim
theorem rd_chn {c c' : Ev.Cm} {a b e : Ev.E} {σ : L2.St} {H : Hp} {Q : VK} (h : trE T k su W (.chn c c' a b e) σ H Q) : tChain (V2 T (Ev.cmpV c)) (V2 T (Ev.cmpV c')) (trE T k su W a) (trE T k su W b) (trE T k su W e) σ H Q := by
  obtain ⟨cur, δ, m, φ, at_, h⟩ := h
  refine ⟨cur, δ, m, φ, at_, OkE.bind h fun x m1 φ1 H1 v e1 rm1 q1 h1 => ?_⟩
  refine ⟨cur, δ, m1, φ1, at_.ext e1 rm1, OkE.bind h1 fun y m2 φ2 H2 u e2 rm2 q2 h2 => ?_⟩
  refine ⟨x, y, m2, φ2, rm2, q1.ext rm1 e2, q2, ?_⟩
  rcases cmpV_bl (o := c) (x := x) (y := y) (m := m2) with ⟨b, e⟩ | e
  · rw [e] at h2 ⊢
    intro φ' H' v' x3 rm3 q3
    cases q3
    refine ⟨b, rfl, ?_⟩
    have h3 := OkE.rebase (m' := m2) h2 x3
    cases b with
    | true =>
      refine ⟨cur, δ, m2, φ', (at_.ext e1 rm1).ext (e2.trans x3) rm3, OkE.bind h3 fun z m4 φ4 H4 w e4 rm4 q4 h4 => ?_⟩
      exact ⟨y, z, m4, φ4, rm4, (q2.ext rm2 x3).ext rm3 e4, q4, OkE.plain h4 cmpV_nx⟩
    | false => exact OkE.now rm3 h3 rfl
  · rw [e] at h2
    exact h2.elim
theorem rd_ife {c a b : Ev.E} {σ : L2.St} {H : Hp} {Q : VK} (h : trE T k su W (.ife c a b) σ H Q) : tIf (trT T k su W c) (trE T k su W a) (trE T k su W b) σ H Q := by
  obtain ⟨cur, δ, m, φ, at_, h⟩ := h
  have h : OkD T φ m H ((Ev.evE (cfg T k) cur δ c m).bind fun x m1 => (Ev.tru x m1).bind fun t m2 => (match t with | true => Ev.evE (cfg T k) cur δ a m2 | false => Ev.evE (cfg T k) cur δ b m2)) Q (WE W σ) := h
  rw [← bind_assoc] at h
  refine ⟨cur, δ, m, φ, at_, OkE.bind h fun t m1 φ1 H1 t' e1 rm1 q1 h1 => ?_⟩
  cases q1
  cases t with
  | true => exact ⟨cur, δ, m1, φ1, at_.ext e1 rm1, h1⟩
  | false => exact ⟨cur, δ, m1, φ1, at_.ext e1 rm1, h1⟩
theorem rdA_nil {σ : L2.St} {H : Hp} {Q : List V → Hp → Prop} (h : trA T k su W [] σ H Q) : tNil σ H Q := by
  obtain ⟨cur, δ, m, φ, at_, h⟩ := h
  exact OkE.now at_.rm h rfl
theorem rdA_cons {e : Ev.E} {es : List Ev.E} {σ : L2.St} {H : Hp} {Q : List V → Hp → Prop} (h : trA T k su W (e :: es) σ H Q) : tCons (trE T k su W e) (trA T k su W es) σ H Q := by
  obtain ⟨cur, δ, m, φ, at_, h⟩ := h
  refine ⟨cur, δ, m, φ, at_, OkE.bind h fun x m1 φ1 H1 v e1 rm1 q1 h1 => ?_⟩
  refine ⟨cur, δ, m1, φ1, at_.ext e1 rm1, OkE.bind h1 fun xs m2 φ2 H2 vs e2 rm2 q2 h2 => ?_⟩
  exact OkE.now rm2 h2 ⟨v, vs, rfl, q1.ext rm1 e2, q2⟩
theorem OkE.toOk {φ : Nat → Addr} {m : Mem} {H : Hp} {d : D} {m' : Mem} {Q : VK} {QX : XK} (h : OkD T φ m H (.ok d m') Q QX) : Ok T φ m H (.ok d m') Q := h
theorem evEs_len {g : Ev.Cfg} {cur : Cur} {δ : Lc} : ∀ {es : List Ev.E} {m m' : Mem} {xs : List D}, Ev.evEs g cur δ es m = .ok xs m' → xs.length = es.length
  | [], m, m', xs, h => by cases h; rfl
  | e :: es, m, m', xs, h => by
    have h : ((Ev.evE g cur δ e m).bind fun x m1 => (Ev.evEs g cur δ es m1).bind fun ys m2 => .ok (x :: ys) m2) = .ok xs m' := h
    cases e1 : Ev.evE g cur δ e m with
    | ok x m1 =>
      rw [e1] at h
      simp only [Rs.bind_ok] at h
      cases e2 : Ev.evEs g cur δ es m1 with
      | ok ys m2 =>
        rw [e2] at h
        cases h
        simp [evEs_len e2]
      | exc _ _ _ => rw [e2] at h; cases h
      | stuck => rw [e2] at h; cases h
    | exc _ _ _ => rw [e1] at h; cases h
    | stuck => rw [e1] at h; cases h
/-- the arguments, with how many they are -/
theorem rdA_n {α β : Type} {rel : (Nat → Addr) → Nat → Hp → α → β → Prop} {es : List Ev.E} {σ : L2.St} {H : Hp} {Q : β → Hp → Prop} {Q1 : List V → Hp → Prop} {cur : Cur} {δ : Lc} {m : Mem} {φ : Nat → Addr} {f : List D → Mem → Rs α}
    (at_ : At T su cur δ m φ σ H) (h : OkE T rel φ m H ((Ev.evEs (cfg T k) cur δ es m).bind f) Q (WE W σ))
    (q : ∀ xs m' φ' H' vs, xs.length = es.length → Ext φ m.length H φ' m'.length H' → At T su cur δ m' φ' σ H' → RDs T φ' m'.length H' xs vs → OkE T rel φ' m' H' (f xs m') Q (WE W σ) → Q1 vs H') : trA T k su W es σ H Q1 := by
  refine ⟨cur, δ, m, φ, at_, ?_⟩
  show OkDs T φ m H (Ev.evEs (cfg T k) cur δ es m) Q1 (WE W σ)
  cases e : Ev.evEs (cfg T k) cur δ es m with
  | ok xs m1 =>
    rw [e] at h
    intro φ1 H1 vs e1 rm1 q1
    exact q xs m1 φ1 H1 vs (evEs_len e) e1 (at_.ext e1 rm1) q1 (OkE.rebase (m' := m1) h e1)
  | exc c fs m1 => rw [e] at h; exact h
  | stuck => rw [e] at h; exact h
theorem line_big : 1000 ≤ sizeLine := by rw [sizeLine_eq]; omega
theorem rd_tup {es : List Ev.E} (hl : es.length ≤ 1000) {σ : L2.St} {H : Hp} {Q : VK} (h : trE T k su W (.tup es) σ H Q) : tTup (trA T k su W es) σ H Q := by
  obtain ⟨cur, δ, m, φ, at_, h⟩ := h
  refine rdA_n at_ h fun xs m1 φ1 H1 vs hn e1 at1 q1 h1 => ?_
  refine ⟨by rw [q1.length, hn]; exact Nat.le_trans hl line_big, ?_⟩
  exact Ok.newT at1.rm (OkE.toOk h1) q1
theorem rd_lst {es : List Ev.E} (hl : es.length ≤ 1000) {σ : L2.St} {H : Hp} {Q : VK} (h : trE T k su W (.lst es) σ H Q) : tLst (trA T k su W es) σ H Q := by
  obtain ⟨cur, δ, m, φ, at_, h⟩ := h
  refine rdA_n at_ h fun xs m1 φ1 H1 vs hn e1 at1 q1 h1 => ?_
  refine ⟨by rw [q1.length, hn]; exact Nat.le_trans hl line_big, ?_⟩
  exact Ok.newL at1.rm (OkE.plain h1 newLst_nx) q1
theorem rd_dct0 {σ : L2.St} {H : Hp} {Q : VK} (h : trE T k su W .dct0 σ H Q) : tDNewK σ H Q := by
  obtain ⟨cur, δ, m, φ, at_, h⟩ := h
  intro p hp
  have x := ext_grow (φ := φ) (n := m.length) (o := HO.dK []) hp
  have h' : ∀ φ' H' v, Ext φ m.length H φ' (m ++ [Ob.dct []]).length H' → RM T φ' (m ++ [Ob.dct []]) H' → RD T φ' (m ++ [Ob.dct []]).length H' (.obj m.length) v → Q v H' := h
  refine h' (grow φ m.length p) _ _ (by rw [List.length_append, List.length_singleton]; exact x) (at_.rm.grow hp ?_) ?_
  · exact ⟨[], upd_same, rfl, rfl⟩
  · rw [List.length_append, List.length_singleton]
    exact ⟨Nat.lt_succ_self _, by rw [grow_new]⟩
theorem rd_blt {b : Ev.Blt} {es : List Ev.E} {σ : L2.St} {H : Hp} {Q : VK} (h : trE T k su W (.blt b es) σ H Q) : tCB (VN T (Ev.bltV b)) (trA T k su W es) σ H Q := by
  obtain ⟨cur, δ, m, φ, at_, h⟩ := h
  refine rdA_n at_ h fun xs m1 φ1 H1 vs hn e1 at1 q1 h1 => ?_
  exact ⟨xs, m1, φ1, at1.rm, q1, OkE.plain h1 bltV_nx⟩
theorem rd_idx {a i : Ev.E} {σ : L2.St} {H : Hp} {Q : VK} (h : trE T k su W (.idx a i) σ H Q) : tOp (V2 T Ev.idxV) (trE T k su W a) (trE T k su W i) σ H Q :=
  rd_op2 (r := Ev.idxV) (fun _ _ _ => rfl) (fun _ _ _ => idxV_nx) h
theorem rd_mth {t : Ev.Mth} {o : Ev.E} {es : List Ev.E} {σ : L2.St} {H : Hp} {Q : VK} (h : trE T k su W (.mth t o es) σ H Q) : tBM T.K "list" (VM T t) (trE T k su W o) (trA T k su W es) σ H Q := by
  obtain ⟨cur, δ, m, φ, at_, h⟩ := h
  refine ⟨cur, δ, m, φ, at_, OkE.bind h fun x m1 φ1 H1 v e1 rm1 q1 h1 => ?_⟩
  split at h1
  · rename_i hl
    refine ⟨?_, rdA_n (at_.ext e1 rm1) h1 fun xs m2 φ2 H2 vs hn e2 at2 q2 h2 => ?_⟩
    · unfold Ev.isLst at hl
      split at hl
      · obtain ⟨_, rfl⟩ := q1
        split at hl
        · rename_i hm
          obtain ⟨_, ws, e, r⟩ := lst_at rm1 hm
          exact .inl ⟨rfl, ws, .of e⟩
        · cases hl
      · cases hl
    · exact ⟨x, xs, m2, φ2, at2.rm, q1.ext rm1 e2, q2, OkE.plain h2 mthV_nx⟩
  · exact h1.elim
theorem rd_isi1 {ty : Ev.Ty} {a : Ev.E} {σ : L2.St} {H : Hp} {Q : VK} (h : trE T k su W (.isi [ty] a) σ H Q) :
    tCB (fun vs H Q => ∃ x v m φ b, vs = [v, .ty (tyName ty)] ∧ RM T φ m H ∧ RD T φ m.length H x v ∧ Ev.tysIs [ty] x m = some b ∧ Q (.bl b) H) (tCons (trE T k su W a) (tCons (tC (.ty (tyName ty))) tNil)) σ H Q := by
  obtain ⟨cur, δ, m, φ, at_, h⟩ := h
  refine ⟨cur, δ, m, φ, at_, OkE.bind h fun x m1 φ1 H1 v e1 rm1 q1 h1 => ?_⟩
  unfold Ev.ofB at h1
  split at h1
  · rename_i b e
    exact ⟨x, v, m1, φ1, b, rfl, rm1, q1, e, OkE.now rm1 h1 rfl⟩
  · exact h1.elim
def tTys (ts : List Ev.Ty) : TA := fun _ H Q => Q (ts.map fun t => V.ty (tyName t)) H
theorem rd_isiT {ts : List Ev.Ty} (hl : ts.length ≤ 1000) {a : Ev.E} {σ : L2.St} {H : Hp} {Q : VK} (h : trE T k su W (.isi ts a) σ H Q) :
    tCB (fun vs H Q => ∃ x v tp m φ b, vs = [v, .ref tp] ∧ H tp = some (.tup (ts.map fun t => V.ty (tyName t))) ∧ RM T φ m H ∧ RD T φ m.length H x v ∧ Ev.tysIs ts x m = some b ∧ Q (.bl b) H) (tCons (trE T k su W a) (tCons (tTup (tTys ts)) tNil)) σ H Q := by
  obtain ⟨cur, δ, m, φ, at_, h⟩ := h
  refine ⟨cur, δ, m, φ, at_, OkE.bind h fun x m1 φ1 H1 v e1 rm1 q1 h1 => ?_⟩
  unfold Ev.ofB at h1
  split at h1
  · rename_i b e
    refine ⟨by rw [List.length_map]; exact Nat.le_trans hl line_big, fun p hp => ?_⟩
    have x1 := ext_new (φ := φ1) (n := m1.length) (o := HO.tup (ts.map fun t => V.ty (tyName t))) hp
    refine ⟨x, v, p, m1, φ1, b, rfl, upd_same, rm1.new hp, q1.ext rm1 x1, e, ?_⟩
    exact h1 φ1 _ _ x1 (rm1.new hp) rfl
  · exact h1.elim
/-- a slice's bound -/
def trO (T : Tb) (k : Nat) (su : Option SuR) (W : WX) (e : Option Ev.E) : TO := fun σ H Q => match e with
  | none => tNoPart σ H Q
  | some e => tPart (trE T k su W e) σ H Q
theorem rdO {α β : Type} {rel : (Nat → Addr) → Nat → Hp → α → β → Prop} {e : Option Ev.E} {σ : L2.St} {H : Hp} {Q : β → Hp → Prop} {Q1 : Option Int → Hp → Prop} {cur : Cur} {δ : Lc} {m : Mem} {φ : Nat → Addr} {f : Option Int → Mem → Rs α}
    (at_ : At T su cur δ m φ σ H) (h : OkE T rel φ m H ((Ev.evO (cfg T k) cur δ e m).bind f) Q (WE W σ))
    (q : ∀ i m' φ' H', Ext φ m.length H φ' m'.length H' → At T su cur δ m' φ' σ H' → OkE T rel φ' m' H' (f i m') Q (WE W σ) → Q1 i H') : trO T k su W e σ H Q1 := by
  cases e with
  | none => exact q none m φ H .refl at_ h
  | some e =>
    have h : OkE T rel φ m H (((Ev.evE (cfg T k) cur δ e m).bind fun x m1 => (match x with | .int i => .ok (some i) m1 | _ => .stuck)).bind f) Q (WE W σ) := h
    rw [bind_assoc] at h
    refine ⟨cur, δ, m, φ, at_, h.bind fun x m1 φ1 H1 v e1 rm1 q1 h1 => ?_⟩
    cases x with
    | int i => cases q1; exact ⟨i, rfl, q (some i) m1 φ1 H1 e1 (at_.ext e1 rm1) h1⟩
    | _ => exact h1.elim
theorem rd_slc {a : Ev.E} {lo hi : Option Ev.E} {σ : L2.St} {H : Hp} {Q : VK} (h : trE T k su W (.slc a lo hi) σ H Q) :
    tSl (fun v lo hi H Q => ∃ x m φ, RM T φ m H ∧ RD T φ m.length H x v ∧ Ok T φ m H (Ev.slcV x lo hi m) Q) (trE T k su W a) (trO T k su W lo) (trO T k su W hi) σ H Q := by
  obtain ⟨cur, δ, m, φ, at_, h⟩ := h
  refine ⟨cur, δ, m, φ, at_, OkE.bind h fun x m1 φ1 H1 v e1 rm1 q1 h1 => ?_⟩
  have at1 := at_.ext e1 rm1
  refine rdO (f := fun l m2 => (Ev.evO (cfg T k) cur δ hi m2).bind fun h m3 => Ev.slcV x l h m3) at1 h1 fun l m2 φ2 H2 e2 at2 h2 => ?_
  refine rdO at2 h2 fun u m3 φ3 H3 e3 at3 h3 => ?_
  exact ⟨x, m3, φ3, at3.rm, q1.ext rm1 (e2.trans e3), OkE.plain h3 slcV_nx⟩
/-- a def's promise: what the evaluator says of its call -/
def spF (T : Tb) (k f : Nat) : Sp := fun vs H Q QX => ∃ ds m φ, RM T φ m H ∧ RDs T φ m.length H ds vs ∧ OkD T φ m H (Ev.run T.pr k f ds m) Q QX
def tCallM (sp : Sp) (W : WX) (t : TA) : TE := fun σ H Q => t σ H fun vs H1 => sp vs H1 Q (WE W σ)
theorem rd_call {f : Nat} {es : List Ev.E} {σ : L2.St} {H : Hp} {Q : VK} (h : trE T k su W (.call f es) σ H Q) : tCallM (spF T k f) W (trA T k su W es) σ H Q := by
  obtain ⟨cur, δ, m, φ, at_, h⟩ := h
  refine rdA_n at_ h fun xs m1 φ1 H1 vs hn e1 at1 q1 h1 => ?_
  exact ⟨xs, m1, φ1, at1.rm, q1, h1⟩
def pickV (ps : List Nat) (vs : List V) : List V := ps.filterMap fun p => vs[p]?
theorem pick_rel {φ : Nat → Addr} {n : Nat} {H : Hp} {xs : List D} {vs : List V} (r : RDs T φ n H xs vs) : ∀ {ps : List Nat} {ys : List D}, Ev.mapO (fun p => xs[p]?) ps = some ys → RDs T φ n H ys (pickV ps vs)
  | [], ys, h => by cases h; rfl
  | p :: ps, ys, h => by
    unfold Ev.mapO at h
    cases e : xs[p]? with
    | none => rw [e] at h; cases h
    | some d =>
      rw [e] at h
      cases e2 : Ev.mapO (fun p => xs[p]?) ps with
      | none => rw [e2] at h; cases h
      | some zs =>
        rw [e2] at h
        cases h
        obtain ⟨v, ev, q⟩ := r.get e
        unfold pickV
        rw [List.filterMap_cons, ev]
        exact ⟨v, _, rfl, q, pick_rel r e2⟩
def tCallKM (sp : Sp) (W : WX) (ps : List Nat) (t : TA) : TE := fun σ H Q => t σ H fun vs H1 => vs.length = ps.length ∧ sp (pickV ps vs) H1 Q (WE W σ)
theorem rd_callk {f : Nat} {ps : List Nat} {es : List Ev.E} {σ : L2.St} {H : Hp} {Q : VK} (h : trE T k su W (.callk f ps es) σ H Q) : tCallKM (spF T k f) W ps (trA T k su W es) σ H Q := by
  obtain ⟨cur, δ, m, φ, at_, h⟩ := h
  refine rdA_n at_ h fun xs m1 φ1 H1 vs hn e1 at1 q1 h1 => ?_
  unfold Ev.pick at h1
  split at h1
  · rename_i ys e
    split at e
    · rename_i hl
      exact ⟨by rw [q1.length]; exact hl.symm, ys, m1, φ1, at1.rm, pick_rel q1 e, h1⟩
    · cases e
  · exact h1.elim
/-- a call of what a local name holds -/
def tCallV (T : Tb) (k i : Nat) (W : WX) (t : TA) : TE := fun σ H Q => ∃ j, j < T.pr.fns.length ∧ σ[i]? = some (some (.ref (T.fa j))) ∧ t σ H fun vs H1 => spF T k j vs H1 Q (WE W σ)
theorem rd_callv {i : Nat} {es : List Ev.E} {σ : L2.St} {H : Hp} {Q : VK} (h : trE T k su W (.callv (.var i) es) σ H Q) : tCallV T k i W (trA T k su W es) σ H Q := by
  obtain ⟨cur, δ, m, φ, at_, h⟩ := h
  have h : OkD T φ m H ((match δ[i]? with | some (some d) => Rs.ok d m | _ => .stuck).bind fun x m1 => (match x with
    | .fn i => (Ev.evEs (cfg T k) cur δ es m1).bind fun xs m2 => Ev.run T.pr k i xs m2
    | _ => .stuck)) Q (WE W σ) := h
  split at h
  · rename_i d e
    obtain ⟨v, ev, q⟩ := at_.rl.2 i d e
    cases d with
    | fn j =>
      obtain ⟨hj, rfl⟩ := q
      refine ⟨j, hj, ev, rdA_n at_ h fun xs m1 φ1 H1 vs hn e1 at1 q1 h1 => ?_⟩
      exact ⟨xs, m1, φ1, at1.rm, q1, h1⟩
    | _ => exact h.elim
  · exact h.elim
/-- the caught error's field -/
theorem rd_cf {f : Nat} {u : SuR} {j : Nat} {σ : L2.St} {H : Hp} {Q : VK} (hj : u.j = some j) (h : trE T k (some u) W (.cf f) σ H Q) : ∃ c, T.pr.fld c = some f ∧ tXf u.a u.cls u.d (T.ca c) (T.fnm f) (tVar j) σ H Q := by
  obtain ⟨cur, δ, m, φ, at_, h⟩ := h
  have h' : OkD T φ m H (match Ev.cfV (cfg T k) cur f with | some d => Rs.ok d m | none => .stuck) Q (WE W σ) := h
  clear h
  obtain ⟨c, fs, hc, hcls, hx, hs⟩ := at_.cu
  subst hc
  split at h'
  · rename_i d e
    unfold Ev.cfV at e
    split at e
    · rename_i c' d' e2
      cases e2
      split at e
      · rename_i hf
        cases e
        have hf : T.pr.fld c = some f := hf
        unfold XD at hx
        rw [hf] at hx
        obtain ⟨d2, dd, v, e3, e4, e5, q⟩ := hx
        cases e3
        refine ⟨c, hf, .ref u.a, hs j hj, rfl, hcls, dd, _, v, e4, e5, ?_, OkE.now at_.rm h' q⟩
        simp [List.lookup]
      · cases e
    · cases e
  · exact h'.elim
end
end EvB
set_option linter.all false
set_option maxRecDepth 100000
set_option maxHeartbeats 4000000
/-! EvB5: targets; what is walked; comprehensions. -/
namespace EvB
open PySem PySem.Spec PyProof.Rows L2
open Ev (D Ob Mem Rs Lc Ky Cur)

/-! ### targets -/
mutual
def slT : Ev.Tg → List Nat
  | .nm i => [i]
  | .tup ts => slTs ts
def slTs : List Ev.Tg → List Nat
  | [] => []
  | t :: ts => slT t ++ slTs ts
end
/-- the same but at these slots -/
def Off (is : List Nat) (σ σ' : L2.St) : Prop := σ'.length = σ.length ∧ ∀ i, i ∉ is → σ'[i]? = σ[i]?
theorem Off.refl {is : List Nat} {σ : L2.St} : Off is σ σ := ⟨rfl, fun _ _ => rfl⟩
theorem Off.trans {is js : List Nat} {σ σ1 σ2 : L2.St} (a : Off is σ σ1) (b : Off js σ1 σ2) : Off (is ++ js) σ σ2 := ⟨b.1.trans a.1, fun i h => by
  rw [List.mem_append, not_or] at h
  exact (b.2 i h.2).trans (a.2 i h.1)⟩
def trG (T : Tb) (t : Ev.Tg) : TG := fun v σ H Q => ∃ d δ m φ δ', RM T φ m H ∧ RL T φ m.length H δ σ ∧ RD T φ m.length H d v ∧ Ev.stTg t d δ = some δ' ∧ ∀ σ', RL T φ m.length H δ' σ' → Off (slT t) σ σ' → Q σ' H
def trGs (T : Tb) (ts : List Ev.Tg) : TGs := fun vs σ H Q => ∃ ds δ m φ δ', RM T φ m H ∧ RL T φ m.length H δ σ ∧ RDs T φ m.length H ds vs ∧ Ev.stTgs ts ds δ = some δ' ∧ ∀ σ', RL T φ m.length H δ' σ' → Off (slTs ts) σ σ' → Q σ' H
section
variable {T : Tb}
theorem rdG_nm {i : Nat} {v : V} {σ : L2.St} {H : Hp} {Q : L2.St → Hp → Prop} (h : trG T (.nm i) v σ H Q) : gName i v σ H Q := by
  obtain ⟨d, δ, m, φ, δ', rm, rl, q, e, h⟩ := h
  unfold Ev.stTg at e
  split at e
  · cases e
    refine h _ (rl.set q) ⟨by simp, fun j hj => ?_⟩
    have hne : i ≠ j := fun z => hj (by rw [z]; exact List.mem_singleton.mpr rfl)
    rw [List.getElem?_set_ne hne]
  · cases e
theorem stTgs_len : ∀ {ts : List Ev.Tg} {vs : List D} {δ δ' : Lc}, Ev.stTgs ts vs δ = some δ' → ts.length = vs.length
  | [], [], _, _, _ => rfl
  | [], _ :: _, _, _, h => by cases h
  | _ :: _, [], _, _, h => by cases h
  | t :: ts, v :: vs, δ, δ', h => by
    unfold Ev.stTgs at h
    split at h
    · simp [stTgs_len h]
    · cases h
theorem rdG_tup {ts : List Ev.Tg} {v : V} {σ : L2.St} {H : Hp} {Q : L2.St → Hp → Prop} (h : trG T (.tup ts) v σ H Q) : gTup T.K ts.length (trGs T ts) v σ H Q := by
  obtain ⟨d, δ, m, φ, δ', rm, rl, q, e, h⟩ := h
  cases d with
  | tup ds =>
    have e : Ev.stTgs ts ds δ = some δ' := e
    obtain ⟨a, vs, rfl, hq, r⟩ := q
    exact ⟨a, vs, rfl, hq, by rw [r.length]; exact (stTgs_len e).symm, ds, δ, m, φ, δ', rm, rl, r, e, h⟩
  | _ => cases e
theorem rdGs_nil {vs : List V} {σ : L2.St} {H : Hp} {Q : L2.St → Hp → Prop} (h : trGs T [] vs σ H Q) : gNil vs σ H Q := by
  obtain ⟨ds, δ, m, φ, δ', rm, rl, q, e, h⟩ := h
  cases ds with
  | nil => cases e; cases q; exact ⟨rfl, h σ rl .refl⟩
  | cons d ds => cases e
theorem rdGs_cons {t : Ev.Tg} {ts : List Ev.Tg} {vs : List V} {σ : L2.St} {H : Hp} {Q : L2.St → Hp → Prop} (h : trGs T (t :: ts) vs σ H Q) : gCons (trG T t) (trGs T ts) vs σ H Q := by
  obtain ⟨ds, δ, m, φ, δ', rm, rl, q, e, h⟩ := h
  cases ds with
  | nil => cases e
  | cons d ds =>
    obtain ⟨v, r, rfl, q1, q2⟩ := q
    unfold Ev.stTgs at e
    split at e
    · rename_i δ1 e1
      exact ⟨v, r, rfl, d, δ, m, φ, δ1, rm, rl, q1, e1, fun σ1 rl1 o1 => ⟨ds, δ1, m, φ, δ', rm, rl1, q2, e, fun σ2 rl2 o2 => h σ2 rl2 (o1.trans o2)⟩⟩
    · cases e
end

/-! ### what is walked -/
/-- the iterator J walks w -/
def JW (T : Tb) (φ : Nat → Addr) (n : Nat) (H : Hp) (w : Ev.Wk) (J : It) : Prop := match w with
  | .con xs => ∀ φ' m' H', Ext φ n H φ' m'.length H' → RM T φ' m' H' →
      (∀ i d, xs[i]? = some d → J.go i H' ∧ ∀ x H'', J.yld i H' x H'' → H'' = H' ∧ RD T φ' m'.length H' d x) ∧ (∀ i, xs.length ≤ i → J.stop i H')
  | .dyn a => a < n ∧ J = Itl T.K (φ a)
def trI (T : Tb) (k : Nat) (su : Option SuR) (W : WX) (it : Ev.It) : TI := rd T (JW T) su W fun cur δ m => Ev.evIt (cfg T k) cur δ it m
section
variable {T : Tb} {k : Nat} {su : Option SuR} {W : WX}
theorem rng_get {lo hi : Int} {i : Nat} {d : D} (h : (Ev.rng lo hi)[i]? = some d) : i < (hi - lo).toNat ∧ d = .int (lo + (i : Nat)) := by
  unfold Ev.rng at h
  rw [List.getElem?_map] at h
  cases e : (List.range (hi - lo).toNat)[i]? with
  | none => rw [e] at h; cases h
  | some j =>
    rw [e] at h
    obtain ⟨hl, rfl⟩ := List.getElem?_eq_some_iff.mp e
    rw [List.getElem_range] at h
    cases h
    exact ⟨by simpa using hl, rfl⟩
theorem rng_len {lo hi : Int} : (Ev.rng lo hi).length = (hi - lo).toNat := by
  unfold Ev.rng
  rw [List.length_map, List.length_range]
theorem jw_rng {φ : Nat → Addr} {n : Nat} {H : Hp} {lo hi : Int} : JW T φ n H (.con (Ev.rng lo hi)) (Itr lo (hi - lo).toNat) := fun φ' m' H' x rm => by
  refine ⟨fun i d e => ?_, fun i h => ?_⟩
  · obtain ⟨h1, rfl⟩ := rng_get e
    exact ⟨h1, fun x H'' q => ⟨q.1, q.2⟩⟩
  · rw [rng_len] at h
    exact h
theorem jw_seq {φ : Nat → Addr} {m : Mem} {H : Hp} {xs : List D} {vs : List V} {p : Addr} (rm : RM T φ m H) (r : RDs T φ m.length H xs vs) (hq : SqT T.K H p vs) : JW T φ m.length H (.con xs) (Itt T.K p) := fun φ' m' H' x rm' => by
  have hq' := rm.tup x hq
  have r' := r.ext rm x
  refine ⟨fun i d e => ?_, fun i hi => ⟨vs, hq', by rw [r.length]; exact hi⟩⟩
  obtain ⟨w, ew, q⟩ := r'.get e
  refine ⟨⟨vs, w, hq', ew⟩, fun y H'' ⟨e1, e2⟩ => ⟨e1, ?_⟩⟩
  have := e2 vs hq'
  rw [ew] at this
  cases this
  exact q
theorem jw_fro {φ : Nat → Addr} {m : Mem} {H : Hp} {xs : List D} {vs : List V} {p : Addr} {o : Obj} (rm : RM T φ m H) (r : RDs T φ m.length H xs vs) (ev : H p = some (.frz o (.lst vs))) : JW T φ m.length H (.con xs) (Itl T.K p) := fun φ' m' H' x rm' => by
  have hq' : SqL T.K H' p vs := .inl (.inr ⟨o, x.frz _ _ _ ev⟩)
  have r' := r.ext rm x
  refine ⟨fun i d e => ?_, fun i hi => ⟨vs, hq', by rw [r.length]; exact hi⟩⟩
  obtain ⟨w, ew, q⟩ := r'.get e
  refine ⟨⟨vs, w, hq', ew⟩, fun y H'' ⟨e1, e2⟩ => ⟨e1, ?_⟩⟩
  have := e2 vs hq'
  rw [ew] at this
  cases this
  exact q
theorem ky_rel {k : Key} {φ : Nat → Addr} {n : Nat} {H : Hp} : RD T φ n H (Ev.kyD k) (kV k) := by cases k <;> rfl
theorem jw_keys {φ : Nat → Addr} {n : Nat} {H : Hp} {kvs : List (Ky × D)} {ws : List (Key × V)} {p : Addr} {o : Obj} (r : ws.map (·.1) = kvs.map (·.1)) (ev : H p = some (.frz o (.dK ws))) : JW T φ n H (.con (kvs.map fun q => Ev.kyD q.1)) (Itk p o ws) := fun φ' m' H' x rm' => by
  have hq' := x.frz _ _ _ ev
  have hl : ws.length = kvs.length := by have := congrArg List.length r; simpa using this
  refine ⟨fun i d e => ?_, fun i hi => ⟨hq', by rw [List.length_map] at hi; omega⟩⟩
  rw [List.getElem?_map] at e
  cases ek : kvs[i]? with
  | none => rw [ek] at e; cases e
  | some q =>
    rw [ek] at e
    cases e
    have e2 : (ws.map (·.1))[i]? = some q.1 := by rw [r, List.getElem?_map, ek]; rfl
    rw [List.getElem?_map] at e2
    refine ⟨⟨hq', by rw [hl]; exact (List.getElem?_eq_some_iff.mp ek).1⟩, fun y H'' ⟨e1, k, v, ew, e3⟩ => ⟨e1, ?_⟩⟩
    rw [ew] at e2
    cases e2
    subst e3
    exact ky_rel
theorem walk_rel {φ : Nat → Addr} {m : Mem} {H : Hp} {x : D} {v : V} {R : It → Hp → Prop} {QX : XK} (rm : RM T φ m H) (q : RD T φ m.length H x v) (h : OkE T (JW T) φ m H (Ev.walkOf x m) R QX) : EvM.rWalk T.K v H R := by
  unfold Ev.walkOf at h
  cases x with
  | tup xs =>
    obtain ⟨p, vs, rfl, hq, r⟩ := q
    exact ⟨p, rfl, .inr (.inl ⟨vs, hq, OkE.now rm h (jw_seq rm r hq)⟩)⟩
  | obj a =>
    obtain ⟨hlt, rfl⟩ := q
    simp only at h
    split at h
    · rename_i xs hm
      obtain ⟨_, vs, ev, r⟩ := lst_at rm hm
      exact ⟨_, rfl, .inl ⟨vs, .of ev, OkE.now rm h ⟨hlt, rfl⟩⟩⟩
    · rename_i xs hm
      obtain ⟨o, vs, ev, r⟩ := fro_at rm hm
      exact ⟨_, rfl, .inl ⟨vs, .inl (.inr ⟨o, ev⟩), OkE.now rm h (jw_fro rm r ev)⟩⟩
    · rename_i kvs hm
      obtain ⟨ws, ev, r⟩ := rm.obj _ _ hm
      refine ⟨_, rfl, .inr (.inr (.inl ⟨ws, ev, fun o => ?_⟩))⟩
      have hz : ∀ o w, H (φ a) ≠ some (.frz o w) := by rw [ev]; simp
      have x1 := ext_write (u := HO.frz o (.dK ws)) rm hlt hz (.fdc kvs)
      have ho : RO T φ m.length (upd H (φ a) (.frz o (.dK ws))) (.fdc kvs) (φ a) := by
        rw [List.length_set] at x1
        exact ⟨o, ws, upd_same, r.1, r.2.ext rm x1⟩
      exact h φ _ _ x1 (rm.write hlt hz ho) (jw_keys r.1 upd_same)
    · rename_i kvs hm
      obtain ⟨o, ws, ev, r⟩ := rm.obj _ _ hm
      exact ⟨_, rfl, .inr (.inr (.inr ⟨o, ws, ev, OkE.now rm h (jw_keys r.1 ev)⟩))⟩
    · exact h.elim
  | _ => exact h.elim
theorem rdI_e {a : Ev.E} {σ : L2.St} {H : Hp} {R : It → Hp → Prop} (h : trI T k su W (.e a) σ H R) : trE T k su W a σ H fun x H1 => EvM.rWalk T.K x H1 R := by
  obtain ⟨cur, δ, m, φ, at_, h⟩ := h
  exact ⟨cur, δ, m, φ, at_, OkE.bind (f := fun x m1 => Ev.walkOf x m1) h fun x m1 φ1 H1 v e1 rm1 q1 h1 => walk_rel rm1 q1 h1⟩
theorem bnd_of {i : Int} (h : Ev.bnd i = true) : -(2 ^ 62) ≤ i ∧ i < 2 ^ 62 := by
  unfold Ev.bnd at h
  simpa using h
theorem rdI_r1 {a : Ev.E} {σ : L2.St} {H : Hp} {R : It → Hp → Prop} (h : trI T k su W (.r1 a) σ H R) : trE T k su W a σ H fun x H1 => ∃ j : Int, x = .int j ∧ (-(2 ^ 62) ≤ j ∧ j < 2 ^ 62) ∧ R (Itr 0 j.toNat) H1 := by
  obtain ⟨cur, δ, m, φ, at_, h⟩ := h
  refine ⟨cur, δ, m, φ, at_, OkE.bind (rel2 := JW T) (f := fun x m1 => Ev.r1V x m1) h fun x m1 φ1 H1 v e1 rm1 q1 h1 => ?_⟩
  unfold Ev.r1V at h1
  cases x with
  | int j =>
    simp only at h1
    split at h1
    · rename_i hb
      cases q1
      refine ⟨j, rfl, bnd_of hb, OkE.now rm1 h1 ?_⟩
      have := jw_rng (T := T) (φ := φ1) (n := m1.length) (H := H1) (lo := 0) (hi := j)
      rw [Int.sub_zero] at this
      exact this
    · exact h1.elim
  | _ => exact h1.elim
theorem rdI_r2 {a b : Ev.E} {σ : L2.St} {H : Hp} {R : It → Hp → Prop} (h : trI T k su W (.r2 a b) σ H R) :
    trE T k su W a σ H fun x H1 => trE T k su W b σ H1 fun y H2 => ∃ i j : Int, x = .int i ∧ y = .int j ∧ (-(2 ^ 62) ≤ i ∧ i < 2 ^ 62 ∧ -(2 ^ 62) ≤ j ∧ j < 2 ^ 62) ∧ R (Itr i (j - i).toNat) H2 := by
  obtain ⟨cur, δ, m, φ, at_, h⟩ := h
  refine ⟨cur, δ, m, φ, at_, OkE.bind (rel2 := JW T) (f := fun x m1 => (Ev.evE (cfg T k) cur δ b m1).bind fun y m2 => Ev.r2V x y m2) h fun x m1 φ1 H1 v e1 rm1 q1 h1 => ?_⟩
  refine ⟨cur, δ, m1, φ1, at_.ext e1 rm1, h1.bind fun y m2 φ2 H2 u e2 rm2 q2 h2 => ?_⟩
  unfold Ev.r2V at h2
  cases x with
  | int i =>
    cases y with
    | int j =>
      simp only at h2
      split at h2
      · rename_i hb
        cases q1
        cases q2
        exact ⟨i, j, rfl, rfl, ⟨(bnd_of hb.1).1, (bnd_of hb.1).2, (bnd_of hb.2).1, (bnd_of hb.2).2⟩, OkE.now rm2 h2 jw_rng⟩
      · exact h2.elim
    | _ => exact h2.elim
  | _ => cases y <;> exact h2.elim
/-! ### comprehensions -/
def WF : WX := fun _ _ _ _ => False
def trC (T : Tb) (k : Nat) (e : Option Ev.E) : TT := match e with
  | none => tYes
  | some e => trT T k none WF e
theorem rdC {e : Option Ev.E} {cur : Cur} {δ : Lc} {m : Mem} {φ : Nat → Addr} {σ : L2.St} {H : Hp} {Q : Bool → Hp → Prop} (at_ : At T none cur δ m φ σ H)
    (h : OkB T φ m H (Ev.evC (cfg T k) cur δ e m) Q (WE WF σ)) : trC T k e σ H Q := by
  cases e with
  | none => exact OkE.now at_.rm h rfl
  | some e => exact ⟨cur, δ, m, φ, at_, h⟩
/-- a list beside the memory -/
structure Side (T : Tb) (φ0 : Nat → Addr) (n0 : Nat) (H0 : Hp) (L : Addr) (ds : List D) (m : Mem) (φ : Nat → Addr) (H : Hp) : Prop where
  rm : RM T φ m H
  ext : Ext φ0 n0 H0 φ m.length H
  fresh : H0 L = none
  off : ∀ i, i < m.length → φ i ≠ L
  at_ : ∃ vs, H L = some (.lst vs) ∧ RDs T φ m.length H ds vs
theorem Side.start {φ : Nat → Addr} {m : Mem} {H : Hp} {L : Addr} (rm : RM T φ m H) (hL : H L = none) : Side T φ m.length H L [] m φ (upd H L (.lst [])) :=
  ⟨rm.new hL, ext_new hL, hL, fun i hi e => rm.some_ hi (by rw [e]; exact hL), [], upd_same, rfl⟩
/-- the evaluation goes on beside it -/
theorem Side.on {φ0 : Nat → Addr} {n0 : Nat} {H0 : Hp} {L : Addr} {ds : List D} {m m' : Mem} {φ φ' : Nat → Addr} {H H' : Hp} (s : Side T φ0 n0 H0 L ds m φ H) (x : Ext φ m.length H φ' m'.length H') (rm : RM T φ' m' H') : Side T φ0 n0 H0 L ds m' φ' H' := by
  obtain ⟨vs, e, r⟩ := s.at_
  refine ⟨rm, s.ext.trans x, s.fresh, fun i hi z => ?_, vs, x.keep _ _ e s.off, r.ext s.rm x⟩
  by_cases hl : i < m.length
  · rw [x.same i hl] at z
    exact s.off i hl z
  · have := x.new i (by omega) hi
    rw [z, e] at this
    cases this
/-- it grows by an item -/
theorem Side.push {φ0 : Nat → Addr} {n0 : Nat} {H0 : Hp} {L : Addr} {ds : List D} {m : Mem} {φ : Nat → Addr} {H : Hp} {d : D} {v : V} (s : Side T φ0 n0 H0 L ds m φ H) (q : RD T φ m.length H d v) {vs : List V} (e : H L = some (.lst vs)) :
    Side T φ0 n0 H0 L (ds ++ [d]) m φ (upd H L (.lst (vs ++ [v]))) := by
  obtain ⟨vs', e', r⟩ := s.at_
  rw [e] at e'
  cases e'
  have ht : ∀ p ws, SqT T.K H p ws → SqT T.K (upd H L (.lst (vs ++ [v]))) p ws := fun p ws h => by
    rcases h with (h | ⟨o, h⟩) | h
    · exact .inl (.inl (by rw [upd_ne (fun z => by rw [z, e] at h; cases h)]; exact h))
    · exact .inl (.inr ⟨o, by rw [upd_ne (fun z => by rw [z, e] at h; cases h)]; exact h⟩)
    · exact .inr h
  refine ⟨⟨fun i o ho => ?_, s.rm.inj⟩, ⟨s.ext.le, s.ext.same, s.ext.new, fun b o hb hn => ?_, fun b hb => ?_, fun b o u hb => ?_⟩, s.fresh, s.off, _, upd_same, ?_⟩
  · exact (s.rm.obj i o ho).mono ht (Nat.le_refl _) (fun _ _ => rfl) (upd_ne (s.off i (List.getElem?_eq_some_iff.mp ho).1))
  · rw [upd_ne (fun z => by rw [z, s.fresh] at hb; cases hb)]
    exact s.ext.keep b o hb hn
  · rw [upd_ne (fun z => by rw [z] at hb; exact hb s.fresh)]
    exact s.ext.tr b hb
  · rw [upd_ne (fun z => by rw [z, s.fresh] at hb; cases hb)]
    exact s.ext.frz b o u hb
  · exact (r.mono ht (Nat.le_refl _) (fun _ _ => rfl)).append (.one (q.mono ht (Nat.le_refl _) (fun _ _ => rfl)))
/-- it is taken into the memory -/
theorem Side.adopt {φ0 : Nat → Addr} {n0 : Nat} {H0 : Hp} {L : Addr} {ds : List D} {m : Mem} {φ : Nat → Addr} {H : Hp} (s : Side T φ0 n0 H0 L ds m φ H) :
    Ext φ0 n0 H0 (grow φ m.length L) (m ++ [Ob.lst ds]).length H ∧ RM T (grow φ m.length L) (m ++ [.lst ds]) H := by
  obtain ⟨vs, e, r⟩ := s.at_
  have hs : ∀ i, i < m.length → grow φ m.length L i = φ i := fun i h => grow_old h
  refine ⟨⟨by have := s.ext.le; simp; omega, fun i h => ?_, fun i h1 h2 => ?_, fun b o hb hn => s.ext.keep b o hb hn, s.ext.tr, s.ext.frz⟩, fun i o ho => ?_, fun i j hi hj z => ?_⟩
  · rw [grow_old (Nat.lt_of_lt_of_le h s.ext.le)]
    exact s.ext.same i h
  · by_cases hl : i < m.length
    · rw [grow_old hl]
      exact s.ext.new i h1 hl
    · have e2 : i = m.length := by simp at h2; omega
      subst e2
      rw [grow_new]
      exact s.fresh
  · rw [List.length_append, List.length_singleton]
    by_cases hl : i < m.length
    · rw [List.getElem?_append_left hl] at ho
      rw [grow_old hl]
      exact (s.rm.obj i o ho).mono (fun _ _ q => q) (Nat.le_succ _) hs rfl
    · rw [List.getElem?_append_right (by omega)] at ho
      have hz : i - m.length = 0 := by
        have := (List.getElem?_eq_some_iff.mp ho).1
        simp at this
        omega
      rw [hz] at ho
      simp only [List.getElem?_cons_zero, Option.some.injEq] at ho
      subst ho
      have e2 : i = m.length := by omega
      subst e2
      rw [grow_new]
      exact ⟨vs, e, r.mono (fun _ _ q => q) (Nat.le_succ _) hs⟩
  · rw [List.length_append, List.length_singleton] at hi hj
    by_cases h1 : i < m.length
    · by_cases h2 : j < m.length
      · rw [grow_old h1, grow_old h2] at z; exact s.rm.inj i j h1 h2 z
      · have e2 : j = m.length := by omega
        subst e2
        rw [grow_old h1, grow_new] at z
        exact absurd z (s.off i h1)
    · have e1 : i = m.length := by omega
      subst e1
      by_cases h2 : j < m.length
      · rw [grow_new, grow_old h2] at z
        exact absurd z.symm (s.off j h2)
      · omega
/-- what stands at the end -/
theorem Side.done {φ0 : Nat → Addr} {m0 : Mem} {H0 : Hp} {L : Addr} {ds : List D} {m : Mem} {φ : Nat → Addr} {H : Hp} {Q : VK} {QX : XK} (s : Side T φ0 m0.length H0 L ds m φ H)
    (h : OkD T φ0 m0 H0 (Ev.newLst ds m) Q QX) : Q (.ref L) H := by
  obtain ⟨x, rm⟩ := s.adopt
  refine h _ H _ x rm ⟨by simp, by rw [grow_new]⟩
theorem RL.wipe {φ : Nat → Addr} {n : Nat} {H : Hp} {δ : Lc} {σ : L2.St} (h : RL T φ n H δ σ) : ∀ vs : List Nat, RL T φ n H (Ev.wipeD δ vs) (L2.wipe σ vs)
  | [] => h
  | v :: vs => RL.unset (RL.wipe h vs)
theorem wipe_at {σ : L2.St} {j : Nat} : ∀ {vs : List Nat}, j ∉ vs → (L2.wipe σ vs)[j]? = σ[j]?
  | [], _ => rfl
  | v :: vs, h => by
    rw [List.mem_cons, not_or] at h
    unfold L2.wipe
    rw [List.getElem?_set_ne (Ne.symm h.1)]
    exact wipe_at h.2
theorem wipe_in {σ : L2.St} {j : Nat} : ∀ {vs : List Nat}, j ∈ vs → (L2.wipe σ vs)[j]? = if j < σ.length then some none else none
  | [], h => by cases h
  | v :: vs, h => by
    unfold L2.wipe
    by_cases e : v = j
    · subst e
      by_cases hl : v < σ.length
      · rw [List.getElem?_set_self (by rw [wipe_length]; exact hl), if_pos hl]
      · rw [List.getElem?_eq_none (by rw [List.length_set, wipe_length]; omega), if_neg hl]
    · rw [List.getElem?_set_ne e]
      exact wipe_in ((List.mem_cons.mp h).resolve_left (fun z => e z.symm))
theorem wipe_off {σ σ' : L2.St} {is vs : List Nat} (h : Off is (L2.wipe σ vs) σ') (hs : ∀ i ∈ is, i ∈ vs) : L2.wipe σ' vs = L2.wipe σ vs := by
  have hl : σ'.length = σ.length := by rw [h.1, wipe_length]
  refine List.ext_getElem? fun j => ?_
  by_cases hj : j ∈ vs
  · rw [wipe_in hj, wipe_in hj, hl]
  · rw [wipe_at hj, wipe_at hj, h.2 j (fun z => hj (hs j z)), wipe_at hj]
/-- one turn of a comprehension -/
theorem comp_turn {own : List Nat} {elt : Ev.E} {t : Ev.Tg} {cond : Option Ev.E} {cur : Cur} {δ : Lc} {σ : L2.St} {φ0 : Nat → Addr} {m0 : Mem} {H0 : Hp} {L : Addr} {ds : List D} {m : Mem} {φ : Nat → Addr} {H : Hp} {d : D} {v : V} {kt : List D → Mem → Rs (List D)} {Q : VK} {QX : XK} {Nx : Hp → Prop}
    (hs : ∀ i ∈ slT t, i ∈ own) (rl : RL T φ m.length H δ σ) (s : Side T φ0 m0.length H0 L ds m φ H) (q : RD T φ m.length H d v)
    (h : OkD T φ0 m0 H0 ((Ev.turnC (Ev.stThen (Ev.stTg t d (Ev.wipeD δ own)) .stuck fun δ' => Ev.iteC (Ev.evC (cfg T k) cur δ' cond m) (fun m1 => Ev.evE (cfg T k) cur δ' elt m1)) ds kt).bind fun ys m2 => Ev.newLst ys m2) Q QX)
    (nx : ∀ ds' m' φ' H', Side T φ0 m0.length H0 L ds' m' φ' H' → OkD T φ0 m0 H0 ((kt ds' m').bind fun ys m2 => Ev.newLst ys m2) Q QX → Nx H') :
    trG T t v (L2.wipe σ own) H fun σ2 H2 => L2.wipe σ2 own = L2.wipe σ own ∧ trC T k cond σ2 H2 fun b H3 =>
      if b = true then trE T k none WF elt σ2 H3 fun y H4 => ∃ acc, H4 L = some (.lst acc) ∧ acc.length < sizeLine ∧ Nx (upd H4 L (.lst (acc ++ [y]))) else Nx H3 := by
  cases e : Ev.stTg t d (Ev.wipeD δ own) with
  | none => rw [e] at h; exact h.elim
  | some δ' =>
    rw [e] at h
    refine ⟨d, Ev.wipeD δ own, m, φ, δ', s.rm, RL.wipe rl own, q, e, fun σ' rl' off => ⟨wipe_off off hs, ?_⟩⟩
    have at_ : At T none cur δ' m φ σ' H := ⟨s.rm, rl', trivial⟩
    refine rdC (cur := cur) at_ ?_
    have h : OkD T φ0 m0 H0 ((Ev.turnC (Ev.iteC (Ev.evC (cfg T k) cur δ' cond m) (fun m1 => Ev.evE (cfg T k) cur δ' elt m1)) ds kt).bind fun ys m2 => Ev.newLst ys m2) Q QX := h
    cases ec : Ev.evC (cfg T k) cur δ' cond m with
    | exc c fs m1 => rw [ec] at h; exact h.elim
    | stuck => rw [ec] at h; exact h.elim
    | ok t m1 =>
      rw [ec] at h
      intro φ1 H1 b x1 rm1 eb
      subst eb
      have s1 := s.on x1 rm1
      cases t with
      | false =>
        simp only [Bool.false_eq_true, if_false]
        exact nx _ _ _ _ s1 h
      | true =>
        simp only [if_true]
        refine ⟨cur, δ', m1, φ1, at_.ext x1 rm1, ?_⟩
        have h : OkD T φ0 m0 H0 ((Ev.turnC ((Ev.evE (cfg T k) cur δ' elt m1).bind fun v m2 => .ok (some v) m2) ds kt).bind fun ys m2 => Ev.newLst ys m2) Q QX := h
        show OkD T φ1 m1 H1 (Ev.evE (cfg T k) cur δ' elt m1) _ _
        cases ee : Ev.evE (cfg T k) cur δ' elt m1 with
        | exc c fs m1 => rw [ee] at h; exact h.elim
        | stuck => rw [ee] at h; exact h.elim
        | ok w m2 =>
          rw [ee] at h
          intro φ2 H2 y x2 rm2 q2
          have s2 := s1.on x2 rm2
          obtain ⟨vs, ev, r⟩ := s2.at_
          have h : OkD T φ0 m0 H0 ((if ds.length < Ev.line then kt (ds ++ [w]) m2 else .stuck).bind fun ys m2 => Ev.newLst ys m2) Q QX := h
          split at h
          · rename_i hl
            refine ⟨vs, ev, by rw [r.length, ← line_eq]; exact hl, ?_⟩
            exact nx _ _ _ _ (s2.push q2 ev) h
          · exact h.elim
/-- what nextD reads -/
theorem next_rel {φ : Nat → Addr} {m : Mem} {H : Hp} {a i : Nat} {o : Option D} (rm : RM T φ m H) (h : Ev.nextD a i m = some o) : a < m.length ∧ ∃ xs vs, H (φ a) = some (.lst vs) ∧ RDs T φ m.length H xs vs ∧ o = xs[i]? := by
  unfold Ev.nextD at h
  split at h
  · rename_i xs hm
    cases h
    obtain ⟨hl, vs, e, r⟩ := lst_at rm hm
    exact ⟨hl, xs, vs, e, r, rfl⟩
  · cases h
theorem rd_comp {own : List Nat} {elt : Ev.E} {t : Ev.Tg} {it : Ev.It} {cond : Option Ev.E} (hs : ∀ i ∈ slT t, i ∈ own) {σ : L2.St} {H : Hp} {Q : VK} (h : trE T k su W (.comp own elt t it cond) σ H Q) :
    tLc (trI T k su W it) (trG T t) (trC T k cond) (trE T k none WF elt) own σ H Q := by
  obtain ⟨cur, δ, m, φ, at_, h⟩ := h
  refine ⟨cur, δ, m, φ, at_, OkE.bind (f := fun w m1 => (Ev.walkC (fun d m => Ev.stThen (Ev.stTg t d (Ev.wipeD δ own)) .stuck fun δ' => Ev.iteC (Ev.evC (cfg T k) cur δ' cond m) (fun m1 => Ev.evE (cfg T k) cur δ' elt m1)) w m1).bind fun ys m2 => Ev.newLst ys m2) h
    fun w m1 φ1 H1 J e1 rm1 jw h1 => fun L hL => ?_⟩
  have at1 := at_.ext e1 rm1
  cases w with
  | con xs =>
    have h1 : OkD T φ1 m1 H1 ((Ev.compC (fun d m => Ev.stThen (Ev.stTg t d (Ev.wipeD δ own)) .stuck fun δ' => Ev.iteC (Ev.evC (cfg T k) cur δ' cond m) (fun m1 => Ev.evE (cfg T k) cur δ' elt m1)) xs [] m1).bind fun ys m2 => Ev.newLst ys m2) Q (WE W σ) := h1
    refine ⟨fun i n H => n = xs.length - i ∧ i ≤ xs.length ∧ ∃ ds m2 φ2, Side T φ1 m1.length H1 L ds m2 φ2 H ∧
      OkD T φ1 m1 H1 ((Ev.compC (fun d m => Ev.stThen (Ev.stTg t d (Ev.wipeD δ own)) .stuck fun δ' => Ev.iteC (Ev.evC (cfg T k) cur δ' cond m) (fun m1 => Ev.evE (cfg T k) cur δ' elt m1)) (xs.drop i) ds m2).bind fun ys m2 => Ev.newLst ys m2) Q (WE W σ),
      ⟨xs.length, rfl, Nat.zero_le _, [], m1, φ1, Side.start rm1 hL, h1⟩, fun i n H2 ⟨hn, hi, ds, m2, φ2, s, h2⟩ => ?_⟩
    have jw2 := jw φ2 m2 H2 s.ext s.rm
    by_cases hlt : i < xs.length
    · refine .inr ?_
      have ed : xs[i]? = some xs[i] := List.getElem?_eq_getElem hlt
      obtain ⟨go, yl⟩ := jw2.1 i _ ed
      rw [List.drop_eq_getElem_cons hlt] at h2
      refine ⟨go, fun H' => ∃ ds m2 φ2, Side T φ1 m1.length H1 L ds m2 φ2 H' ∧
        OkD T φ1 m1 H1 ((Ev.compC (fun d m => Ev.stThen (Ev.stTg t d (Ev.wipeD δ own)) .stuck fun δ' => Ev.iteC (Ev.evC (cfg T k) cur δ' cond m) (fun m1 => Ev.evE (cfg T k) cur δ' elt m1)) (xs.drop (i + 1)) ds m2).bind fun ys m2 => Ev.newLst ys m2) Q (WE W σ),
        fun H' hh => ⟨xs.length - (i + 1), by omega, rfl, hlt, hh⟩, fun x H' hy => ?_⟩
      obtain ⟨rfl, q⟩ := yl x H' hy
      exact comp_turn hs (at1.rl.ext rm1 s.ext) s q h2 fun ds' m' φ' H' s' h' => ⟨ds', m', φ', s', h'⟩
    · refine .inl ⟨jw2.2 i (by omega), ?_⟩
      rw [List.drop_eq_nil_of_le (by omega)] at h2
      exact s.done h2
  | dyn a =>
    obtain ⟨ha, rfl⟩ := jw
    have h1 : OkD T φ1 m1 H1 ((Ev.compD (fun d m => Ev.stThen (Ev.stTg t d (Ev.wipeD δ own)) .stuck fun δ' => Ev.iteC (Ev.evC (cfg T k) cur δ' cond m) (fun m1 => Ev.evE (cfg T k) cur δ' elt m1)) a (Ev.line + 2) 0 [] m1).bind fun ys m2 => Ev.newLst ys m2) Q (WE W σ) := h1
    refine ⟨fun i n H => ∃ ds m2 φ2, Side T φ1 m1.length H1 L ds m2 φ2 H ∧
      OkD T φ1 m1 H1 ((Ev.compD (fun d m => Ev.stThen (Ev.stTg t d (Ev.wipeD δ own)) .stuck fun δ' => Ev.iteC (Ev.evC (cfg T k) cur δ' cond m) (fun m1 => Ev.evE (cfg T k) cur δ' elt m1)) a n i ds m2).bind fun ys m2 => Ev.newLst ys m2) Q (WE W σ),
      ⟨Ev.line + 2, [], m1, φ1, Side.start rm1 hL, h1⟩, fun i n H2 ⟨ds, m2, φ2, s, h2⟩ => ?_⟩
    cases n with
    | zero => exact h2.elim
    | succ n =>
      cases en : Ev.nextD a i m2 with
      | none => unfold Ev.compD at h2; rw [en] at h2; exact h2.elim
      | some o =>
        unfold Ev.compD at h2
        rw [en] at h2
        obtain ⟨hl, xs, vs, ev, r, eo⟩ := next_rel s.rm en
        have ea : φ2 a = φ1 a := s.ext.same a ha
        rw [ea] at ev
        cases o with
        | none =>
          refine .inl ⟨⟨vs, .of ev, ?_⟩, s.done h2⟩
          rw [r.length]
          exact List.getElem?_eq_none_iff.mp eo.symm
        | some d =>
          obtain ⟨w, ew, q⟩ := r.get eo.symm
          refine .inr ⟨⟨vs, w, .of ev, ew⟩, fun H' => ∃ ds m2 φ2, Side T φ1 m1.length H1 L ds m2 φ2 H' ∧
            OkD T φ1 m1 H1 ((Ev.compD (fun d m => Ev.stThen (Ev.stTg t d (Ev.wipeD δ own)) .stuck fun δ' => Ev.iteC (Ev.evC (cfg T k) cur δ' cond m) (fun m1 => Ev.evE (cfg T k) cur δ' elt m1)) a n (i + 1) ds m2).bind fun ys m2 => Ev.newLst ys m2) Q (WE W σ),
            fun H' hh => ⟨n, Nat.lt_succ_self n, hh⟩, fun x H' hy => ?_⟩
          obtain ⟨rfl, e2⟩ := hy
          have e3 := e2 vs (.of ev)
          rw [ew] at e3
          cases e3
          exact comp_turn hs (at1.rl.ext rm1 s.ext) s q h2 fun ds' m' φ' H' s' h' => ⟨ds', m', φ', s', h'⟩
end
end EvB
set_option linter.all false
set_option maxRecDepth 100000
set_option maxHeartbeats 4000000
/-! EvB6: from the text to the evaluator's expressions. -/
namespace EvB
open PySem PySem.Spec PyProof.Rows L2 EvM
open Ev (D Ob Mem Rs Lc Ky Cur)

/-- names of the module: its defs, its error classes; the defs' parameters; which defs are called while an exception is handled; the errors' field names -/
structure Gs where
  fnN : List (Str × Nat)
  clN : List (Str × Nat)
  ps : List (List Str)
  hot : List Bool
  fdN : List Str
  pf : List (Option Nat)
/-- where a text stands -/
structure Cc where
  sc : Scope
  N : List Str
  calm : Bool
  hv : Option Nat
  cw : List Str

/-- the names of a scope that stand in cells -/
def cellsOf (sc : Scope) : List Str := sc.names.filterMap fun p => match p.2 with
  | .cell => some p.1
  | _ => none
def ixS : List Str → Str → Option Nat
  | [], _ => none
  | y :: ys, x => if y = x then some 0 else (ixS ys x).map (· + 1)
theorem ixS_get : ∀ {N : List Str} {x : Str} {i : Nat}, ixS N x = some i → N[i]? = some x
  | [], _, _, h => by cases h
  | y :: ys, x, i, h => by
    unfold ixS at h
    split at h
    · rename_i e
      cases h
      rw [e]; rfl
    · rw [Option.map_eq_some_iff] at h
      obtain ⟨j, hj, rfl⟩ := h
      exact ixS_get (N := ys) hj

/-! ### what is known where a text stands -/
structure FOk (T : Tb) (B : Heap) (G : Gs) (k i : Nat) : Prop where
  ex : ∃ fd ps, (∃ oc od osl, T.K.lookup (T.fa i) = some ⟨oc, od, .func fd, osl⟩) ∧ G.ps[i]? = some ps ∧ FnM T.P T.w T.K T.mg B (k + 3) (T.fa i) fd ps (spF T k i) (G.hot.getD i false) ∧ PySem.W.keepIn T.K (.ref (T.fa i)) = true ∧ PlainP fd.params ps ∧ ps.Nodup ∧ fd.defaults = .none
def bltNames : List Str := ["len", "abs", "int", "max", "min", "list", "tuple", "sum", "isinstance", "range", "bool", "str", "dict"]
structure GT (T : Tb) (B : Heap) (G : Gs) (k : Nat) : Prop where
  fn : ∀ x i, G.fnN.lookup x = some i → T.mg x = some (.ref (T.fa i))
  fok : ∀ i, i < G.ps.length → FOk T B G k i
  len : T.pr.fns.length = G.ps.length
  cl : ∀ x i, G.clN.lookup x = some i → T.mg x = some (.ref (T.ca i))
  er : ∀ i r, G.pf[i]? = some r → ErrC T.P T.w T.K T.mg B (T.ca i) ((T.pr.fld i).map T.fnm)
  sub : ∀ c h b, T.pr.sub c h = some b → PySem.W.exmOne T.K (.ref (T.ca c)) (.ref (T.ca h)) = some b
  fl : ∀ c f, T.pr.fld c = some f → XfC T.K (T.ca c) ∧ PySem.W.findIn T.K (.ref (T.ca c)) (T.fnm f) = some none
  fnm : ∀ i f, G.fdN[i]? = some f → T.fnm i = f
  pf : ∀ i r, G.pf[i]? = some r → T.pr.fld i = r
  no : ∀ x ∈ bltNames, T.mg x = none
structure XT (T : Tb) (G : Gs) (c : Cc) (k : Nat) (X : Cx) (W : WX) (su : Option SuR) : Prop where
  gt : GT T X.base G k
  prog : X.prog = T.P
  w : X.w = T.w
  K : X.K = T.K
  mg : X.mg = T.mg
  N : X.N = c.N
  nd : c.N.Nodup
  sc : X.env.scope = c.sc
  tk : L2N.Takes X W
  mild : Mild X
  calm : c.calm = true → X.calm = true
  room : RoomM (k + 3) X
  hv : c.hv = su.bind (·.j)
  cw : ∀ x ∈ c.cw, X.fn x = true
  suc : ∀ u, su = some u → ∃ (oe : Obj) (pn : List (Addr × Obj)) (Y : Cx), X = Y.suite u.a ((u.a, oe) :: pn) ∧ L2N.Zn u.cls u.d oe ∧ ∃ vs, oe.data = .fields vs
theorem XT.units {T : Tb} {G : Gs} {c : Cc} {k : Nat} {X : Cx} {W : WX} {su : Option SuR} (x : XT T G c k X W su) : X.A.units + 65 < cLine := by
  have := x.room.hot.un
  omega
theorem XT.nd' {T : Tb} {G : Gs} {c : Cc} {k : Nat} {X : Cx} {W : WX} {su : Option SuR} (x : XT T G c k X W su) : X.N.Nodup := by rw [x.N]; exact x.nd

/-! ### names -/
def okName (x : Str) : Bool := !(x == ("__debug__" : Str)) && !(x == ("__classdict__" : Str)) && decide (x ≠ "__name__")
/-- the slot of a name that is read -/
def cVar (c : Cc) (x : Str) : Option Nat := if okName x = true then (match c.sc.names.lookup x with
  | some .local => ixS c.N x
  | some .cell => ixS c.N x
  | some .free => ixS c.N x
  | _ => none) else none
def isGl (c : Cc) (x : Str) : Bool := okName x && decide (c.sc.names.lookup x = some .globalImplicit)
def cName (G : Gs) (c : Cc) (x : Str) : Option Ev.E := match isGl c x with
  | true => (match G.fnN.lookup x with
    | some i => if i < G.ps.length then some (.lit (.fn i)) else none
    | none => none)
  | false => (cVar c x).map .var
section
variable {T : Tb} {G : Gs} {c : Cc} {k : Nat} {X : Cx} {W : WX} {su : Option SuR}
theorem okName_1 {x : Str} (h : okName x = true) : (x == ("__debug__" : Str)) = false := by
  unfold okName at h
  simp only [Bool.and_eq_true, Bool.not_eq_true'] at h
  exact h.1.1
theorem okName_2 {x : Str} (h : okName x = true) : (x == ("__classdict__" : Str)) = false := by
  unfold okName at h
  simp only [Bool.and_eq_true, Bool.not_eq_true'] at h
  exact h.1.2
theorem okName_3 {x : Str} (h : okName x = true) : x ≠ "__name__" := by
  unfold okName at h
  simp only [Bool.and_eq_true, decide_eq_true_eq] at h
  exact h.2
theorem cVar_at (x : XT T G c k X W su) {n : Str} {i : Nat} (h : cVar c n = some i) : X.N[i]? = some n ∧ Vis X.env.scope n ∧ (n == ("__debug__" : Str)) = false ∧ (n == ("__classdict__" : Str)) = false := by
  unfold cVar at h
  split at h
  · rename_i ok
    rw [x.N]
    have hV : ∀ kd, c.sc.names.lookup n = some kd → X.env.scope.names.lookup n = some kd := fun kd e => by rw [x.sc]; exact e
    split at h
    · rename_i e
      exact ⟨ixS_get h, .inl (hV _ e), okName_1 ok, okName_2 ok⟩
    · rename_i e
      exact ⟨ixS_get h, .inr (.inl (hV _ e)), okName_1 ok, okName_2 ok⟩
    · rename_i e
      exact ⟨ixS_get h, .inr (.inr (hV _ e)), okName_1 ok, okName_2 ok⟩
    · cases h
  · cases h
/-- the slot of a name that is stored -/
def cSlot (c : Cc) (x : Str) : Option Nat := if okName x = true ∧ (c.sc.names.lookup x = some .local ∨ (c.sc.names.lookup x = some .cell ∧ c.cw.contains x = true)) then (match ixS c.N x with
  | some i => if c.hv = some i then none else some i
  | none => none) else none
theorem cSlot_at (x : XT T G c k X W su) {y : Str} {i : Nat} (h : cSlot c y = some i) : X.N[i]? = some y ∧ L2.Loc X.env.scope y ∧ (X.fn y = true ∨ X.env.scope.names.lookup y = some .local) ∧ c.hv ≠ some i := by
  unfold cSlot at h
  split at h
  · rename_i hc
    split at h
    · rename_i j hj
      split at h
      · cases h
      · rename_i hne
        cases h
        refine ⟨by rw [x.N]; exact ixS_get hj, ?_, ?_, hne⟩
        · rcases hc.2 with e | e
          · exact .inl (by rw [x.sc]; exact e)
          · exact .inr (by rw [x.sc]; exact e.1)
        · rcases hc.2 with e | e
          · exact .inr (by rw [x.sc]; exact e)
          · exact .inl (x.cw y (by simpa using e.2))
    · cases h
  · cases h
theorem isGl_at (x : XT T G c k X W su) {n : Str} (h : isGl c n = true) : Gl X n ∧ okName n = true := by
  unfold isGl at h
  simp only [Bool.and_eq_true, decide_eq_true_eq] at h
  refine ⟨?_, h.1⟩
  show X.env.scope.names.lookup n = _
  rw [x.sc]
  exact h.2
theorem pe_var' (x : XT T G c k X W su) {n : Str} {i : Nat} {pos : Pos} (h : cVar c n = some i) : PE X (.Name n pos) (trE T k su W (.var i)) := by
  obtain ⟨h1, h2, h3, h4⟩ := cVar_at x h
  exact (pe_var h1 h2 h3 h4).wk fun σ H Q q => rd_var q
theorem pe_name (x : XT T G c k X W su) {n : Str} {e : Ev.E} {pos : Pos} (h : cName G c n = some e) : PE X (.Name n pos) (trE T k su W e) := by
  unfold cName at h
  split at h
  · rename_i hg
    obtain ⟨g, ok⟩ := isGl_at x hg
    split at h
    · rename_i i hi
      split at h
      · rename_i hl
        cases h
        exact (pe_glob (v := .ref (T.fa i)) g (by rw [x.mg]; exact x.gt.fn n i hi) rfl (okName_1 ok)).wk fun σ H Q q => rd_lit (d := .fn i) (v := .ref (T.fa i)) (fun _ _ _ => ⟨by rw [x.gt.len]; exact hl, rfl⟩) q
      · cases h
    · cases h
  · rw [Option.map_eq_some_iff] at h
    obtain ⟨i, hi, rfl⟩ := h
    exact pe_var' x hi

/-! ### built-in functions -/
def bltTab : List ((Str × Nat) × Ev.Blt) := [(("len", 1), .len), (("abs", 1), .abs), (("int", 1), .int), (("max", 2), .max2), (("min", 2), .min2), (("list", 1), .list), (("tuple", 1), .tuple), (("sum", 1), .sum)]
def bltName : Ev.Blt → Str
  | .len => "len" | .abs => "abs" | .int => "int" | .max2 => "max" | .min2 => "min" | .list => "list" | .tuple => "tuple" | .sum => "sum"
theorem blt_boot (b : Ev.Blt) : bootBuiltins (bltName b) = some (bltOf b) := by cases b <;> decide +kernel
theorem blt_no (b : Ev.Blt) : bltName b ∈ bltNames := by cases b <;> decide +kernel
theorem bltTab_name {x : Str} {n : Nat} {b : Ev.Blt} (h : bltTab.lookup (x, n) = some b) : x = bltName b := by
  have key : ∀ p ∈ bltTab, p.1.1 = bltName p.2 := by decide +kernel
  have : ∀ (l : List ((Str × Nat) × Ev.Blt)), (∀ p ∈ l, p.1.1 = bltName p.2) → l.lookup (x, n) = some b → x = bltName b := by
    intro l
    induction l with
    | nil => intro _ h; cases h
    | cons p l ih =>
      intro hl h
      obtain ⟨⟨y, j⟩, b'⟩ := p
      rw [List.lookup_cons] at h
      split at h
      · rename_i e
        cases h
        have e2 : (x, n) = (y, j) := by simpa using e
        cases e2
        exact hl _ List.mem_cons_self
      · exact ih (fun p hp => hl p (List.mem_cons_of_mem _ hp)) h
  exact this _ key h
/-- a built-in function's call, whatever it is -/
theorem pe_blt (x : XT T G c k X W su) {b : Ev.Blt} {e : Expr} {es : List Expr} {xs : List Ev.E} {p pos : Pos} (hg : isGl c (bltName b) = true) (hc : hotB b = false → X.calm = true) (ha : PA X (e :: es) (trA T k su W xs)) (hs : (e :: es).all bare1 = true) :
    PE X (.Call (.Name (bltName b) p) (e :: es) [] pos) (trE T k su W (.blt b xs)) := by
  obtain ⟨g, ok⟩ := isGl_at x hg
  have hm : X.mg (bltName b) = none := by rw [x.mg]; exact x.gt.no _ (blt_no b)
  simp only [List.all_cons, Bool.and_eq_true] at hs
  have he : starEach (e :: es) X.env = (false, eval e X.env) :: starEach es X.env := star_cons hs.1
  have hpl : (backTo pos (starEach es X.env)).any (·.1) = false := star_none hs.2
  have go : (∃ id, bltOf b = .builtin id) ∨ (∃ t, bltOf b = .type t) := by cases b <;> first | exact .inl ⟨_, rfl⟩ | exact .inr ⟨_, rfl⟩
  have hb := blt_ok x.K b hc
  have bo := blt_boot b
  rcases go with ⟨id, e1⟩ | ⟨t, e1⟩
  · rw [e1] at hb bo
    exact (pe_callB hb g hm bo ha (okName_3 ok) (okName_1 ok) he hpl).wk fun σ H Q q => rd_blt q
  · rw [e1] at hb bo
    exact (pe_callTy hb g hm bo ha (okName_3 ok) (okName_1 ok) he hpl).wk fun σ H Q q => rd_blt q
/-! ### isinstance -/
def tyTab : List (Str × Ev.Ty) := [("int", .int), ("bool", .bool), ("str", .str), ("tuple", .tuple), ("list", .list), ("dict", .dict)]
def tyStr (t : Ev.Ty) : Str := match t with
  | .int => "int" | .bool => "bool" | .str => "str" | .tuple => "tuple" | .list => "list" | .dict => "dict"
theorem tyTab_name {x : Str} {t : Ev.Ty} (h : tyTab.lookup x = some t) : x = tyStr t := by
  have key : ∀ p ∈ tyTab, p.1 = tyStr p.2 := by decide +kernel
  have : ∀ (l : List (Str × Ev.Ty)), (∀ p ∈ l, p.1 = tyStr p.2) → l.lookup x = some t → x = tyStr t := by
    intro l
    induction l with
    | nil => intro _ h; cases h
    | cons p l ih =>
      intro hl h
      obtain ⟨y, b'⟩ := p
      rw [List.lookup_cons] at h
      split at h
      · rename_i e
        cases h
        have e2 : x = y := by simpa using e
        cases e2
        exact hl _ List.mem_cons_self
      · exact ih (fun p hp => hl p (List.mem_cons_of_mem _ hp)) h
  exact this _ key h
theorem ty_boot (t : Ev.Ty) : bootBuiltins (tyStr t) = some (.type (tyName t)) := by cases t <;> decide +kernel
theorem ty_no (t : Ev.Ty) : tyStr t ∈ bltNames := by cases t <;> decide +kernel
/-- a type's name as a value -/
def cTy (c : Cc) (e : Expr) : Option Ev.Ty := match e with
  | .Name x _ => if isGl c x = true then tyTab.lookup x else none
  | _ => none
theorem pe_ty (x : XT T G c k X W su) {e : Expr} {t : Ev.Ty} (h : cTy c e = some t) : PE X e (tC (.ty (tyName t))) ∧ bare1 e = true := by
  unfold cTy at h
  split at h
  · split at h
    · rename_i hg
      obtain ⟨g, ok⟩ := isGl_at x hg
      cases tyTab_name h
      exact ⟨pe_bltn g (by rw [x.mg]; exact x.gt.no _ (ty_no t)) (ty_boot t) rfl (okName_3 ok) (okName_1 ok), rfl⟩
    · cases h
  · cases h
theorem pa_tys (x : XT T G c k X W su) : ∀ {es : List Expr} {ts : List Ev.Ty}, Ev.mapO (cTy c) es = some ts → PA X es (tTys ts)
  | [], ts, h => by cases h; exact pa_nil.wk fun σ H Q q => q
  | e :: es, ts, h => by
    unfold Ev.mapO at h
    cases e1 : cTy c e with
    | none => rw [e1] at h; cases h
    | some t =>
      rw [e1] at h
      cases e2 : Ev.mapO (cTy c) es with
      | none => rw [e2] at h; cases h
      | some r =>
        rw [e2] at h
        cases h
        obtain ⟨p1, b1⟩ := pe_ty x e1
        exact (pa_cons p1 (pa_tys x e2) (star_cons b1)).wk fun σ H Q q => q
theorem isi_boot : bootBuiltins "isinstance" = some (.builtin "isinstance") := by decide +kernel
/-- isinstance(a, t), isinstance(a, (t, ..)) -/
def cTys (c : Cc) (e : Expr) : Option (List Ev.Ty) := match e with
  | .Tuple es _ _ => if es.length ≤ 1000 then Ev.mapO (cTy c) es else none
  | e => (cTy c e).map fun t => [t]
theorem pe_isi (x : XT T G c k X W su) {a ty : Expr} {e : Ev.E} {ts : List Ev.Ty} {p pos : Pos} (hg : isGl c "isinstance" = true) (ha : PE X a (trE T k su W e)) (hb : bare1 a = true) (ht : cTys c ty = some ts) :
    PE X (.Call (.Name "isinstance" p) [a, ty] [] pos) (trE T k su W (.isi ts e)) := by
  obtain ⟨g, ok⟩ := isGl_at x hg
  have hm : X.mg "isinstance" = none := by rw [x.mg]; exact x.gt.no _ (by decide +kernel)
  have one : ∀ t, cTy c ty = some t → PE X (.Call (.Name "isinstance" p) [a, ty] [] pos) (trE T k su W (.isi [t] e)) := fun t ht => by
    obtain ⟨p1, b1⟩ := pe_ty x ht
    refine (pe_callB (isi1_ok x.K t) g hm isi_boot (pa_cons ha (pa_cons p1 pa_nil (star_cons b1)) (star_cons hb)) (okName_3 ok) (okName_1 ok) (star_cons hb) (star_none (by simp [b1]))).wk fun σ H Q q => rd_isi1 q
  unfold cTys at ht
  split at ht
  · rename_i es kk pp
    split at ht
    · rename_i hl
      have hlen := (mapO_some ht).1
      refine (pe_callB (isiT_ok x.K ts) g hm isi_boot (pa_cons ha (pa_cons (pe_tup (pa_tys x ht)) pa_nil (star_cons rfl)) (star_cons hb)) (okName_3 ok) (okName_1 ok) (star_cons hb) (star_none rfl)).wk fun σ H Q q => rd_isiT (by omega) q
    · cases ht
  · rw [Option.map_eq_some_iff] at ht
    obtain ⟨t, ht, rfl⟩ := ht
    exact one t ht
end
end EvB
set_option linter.all false
set_option maxRecDepth 100000
set_option maxHeartbeats 4000000
/-! EvB7: calls of the text's own defs. -/
namespace EvB
open PySem PySem.Spec PyProof.Rows L2 EvM
open Ev (D Ob Mem Rs Lc Ky Cur)
section
variable {T : Tb} {G : Gs} {c : Cc} {k : Nat} {X : Cx} {W : WX} {su : Option SuR}
/-- a call that is stuck is never asked -/
theorem spF_lt {B : Heap} (g : GT T B G k) {i : Nat} {vs : List V} {H : Hp} {Q : VK} {QX : XK} (h : spF T k i vs H Q QX) : i < G.ps.length := by
  obtain ⟨ds, m, φ, rm, r, h⟩ := h
  by_cases hl : i < T.pr.fns.length
  · exact by rw [← g.len]; exact hl
  · have e : Ev.run T.pr k i ds m = .stuck := by
      cases k with
      | zero => rfl
      | succ k =>
        unfold Ev.run
        rw [List.getElem?_eq_none (by omega)]
    rw [e] at h
    exact h.elim
theorem vals_pick {vs : List V} {us : List Value} (r : Vals vs us) : ∀ {ps : List Nat}, (∀ p ∈ ps, p < vs.length) → Vals (pickV ps vs) (ps.filterMap fun p => us[p]?)
  | [], _ => .nil
  | p :: ps, h => by
    have hp := h p List.mem_cons_self
    obtain ⟨u, eu, ru⟩ := r.get (List.getElem?_eq_getElem hp)
    have ih := vals_pick r (ps := ps) fun q hq => h q (List.mem_cons_of_mem _ hq)
    unfold pickV
    rw [List.filterMap_cons, List.filterMap_cons, List.getElem?_eq_getElem hp, eu]
    exact .cons ru ih
/-- the callee runs -/
theorem run_f (x : XT T G c k X W su) {i : Nat} {pins : List (Addr × Obj)} {σ : L2.St} {H : Hp} {s : Shared} {Q : VK} {us ws : List Value} {kw : List (Str × Value)} {vs : List V} (hh : X.calm = true ∨ G.hot.getD i false = true)
    (hb : ∀ ps, G.ps[i]? = some ps → ps.Nodup → ps.length = ws.length → (us = ws ∧ kw = []) ∨ (us = [] ∧ (∀ p ∈ kw, ps.contains p.1 = true) ∧ (kw.map (·.1)).Nodup ∧ ∀ (i : Nat) n w, ps[i]? = some n → ws[i]? = some w → kw.lookup n = some w))
    (I : Inv X pins σ H s) (r : Vals vs ws) (q : spF T k i vs H Q (WE W σ)) : wpAny (model X.prog X.w) X.A (PySem.call (.ref (T.fa i)) us kw) (EP X pins σ Q) X.xe s := by
  obtain ⟨fd, ps, _, ep, F, hk, pp, nd, hd⟩ := (x.gt.fok i (spF_lt x.gt q)).ex
  have hl : ps.length = ws.length := by rw [← F.calm.len _ _ _ _ q]; exact r.length
  have F' : FnM X.prog X.w X.K X.mg X.base (k + 3) (T.fa i) fd ps (spF T k i) (G.hot.getD i false) := by
    rw [x.prog, x.w, x.K, x.mg]; exact F
  exact run_fnM F' x.room x.mild hh x.tk (BindsTo.of_eq (bind_plain pp nd hd hl (hb ps ep nd hl))) I r q
theorem keep_f (x : XT T G c k X W su) {i : Nat} (h : i < G.ps.length) : PySem.W.keepIn X.K (.ref (T.fa i)) = true := by
  obtain ⟨fd, ps, _, ep, F, hk, pp, nd, hd⟩ := (x.gt.fok i h).ex
  rw [x.K]; exact hk
theorem pe_callM (x : XT T G c k X W su) {n : Str} {i : Nat} {e : Expr} {es : List Expr} {xs : List Ev.E} {p pos : Pos} (hg : isGl c n = true) (hf : G.fnN.lookup n = some i) (hi : i < G.ps.length) (hh : X.calm = true ∨ G.hot.getD i false = true)
    (ha : PA X (e :: es) (trA T k su W xs)) (hs : (e :: es).all bare1 = true) : PE X (.Call (.Name n p) (e :: es) [] pos) (trE T k su W (.call i xs)) := by
  obtain ⟨g, ok⟩ := isGl_at x hg
  have hm : X.mg n = some (.ref (T.fa i)) := by rw [x.mg]; exact x.gt.fn _ _ hf
  simp only [List.all_cons, Bool.and_eq_true] at hs
  refine ⟨fun pins s σ H Q I h => ?_⟩
  refine wpAny_Call_Name_kw (ld_glob I g hm ?_ (okName_1 ok))
  refine PySem.W.callWith_K (h₀ := X.base) I.ok.mod.kin (keep_f x hi) (thn (ha.run pos pins s σ H _ I (rd_call h)) fun us s1 ⟨vs, H1, I1, r, q⟩ => ⟨I1.kIn, ?_⟩) (star_cons hs.1) (star_none hs.2)
  exact run_f x hh (fun ps _ _ _ => .inl ⟨rfl, rfl⟩) I1 r q
theorem pe_callM0 (x : XT T G c k X W su) {n : Str} {i : Nat} {p pos : Pos} (hg : isGl c n = true) (hf : G.fnN.lookup n = some i) (hi : i < G.ps.length) (hh : X.calm = true ∨ G.hot.getD i false = true) :
    PE X (.Call (.Name n p) [] [] pos) (trE T k su W (.call i [])) := by
  obtain ⟨g, ok⟩ := isGl_at x hg
  have hm : X.mg n = some (.ref (T.fa i)) := by rw [x.mg]; exact x.gt.fn _ _ hf
  refine ⟨fun pins s σ H Q I h => ?_⟩
  refine wpAny_Call_Name_kw (ld_glob I g hm ?_ (okName_1 ok))
  have q := rdA_nil (rd_call h)
  exact PySem.W.callWith_K0 I.kIn (keep_f x hi) (run_f (us := []) x hh (fun ps _ _ _ => .inl ⟨rfl, rfl⟩) I .nil q)
theorem pe_callVM (x : XT T G c k X W su) {n : Str} {j : Nat} {e : Expr} {es : List Expr} {xs : List Ev.E} {p pos : Pos} (hv : cVar c n = some j) (hc : X.calm = true)
    (ha : PA X (e :: es) (trA T k su W xs)) (hs : (e :: es).all bare1 = true) : PE X (.Call (.Name n p) (e :: es) [] pos) (trE T k su W (.callv (.var j) xs)) := by
  obtain ⟨h1, h2, h3, h4⟩ := cVar_at x hv
  simp only [List.all_cons, Bool.and_eq_true] at hs
  refine ⟨fun pins s σ H Q I h => ?_⟩
  obtain ⟨i, hi, hσ, ht⟩ := rd_callv h
  refine wpAny_Call_Name_kw (thn ((pe_var (pos := p) h1 h2 h3 h4).run pins s σ H (fun v H1 => v = .ref (T.fa i) ∧ H1 = H) I ⟨.ref (T.fa i), hσ, rfl, rfl⟩) fun u s1 ⟨v, H1, I1, r1, q1⟩ => ?_)
  obtain ⟨rfl, rfl⟩ := q1
  cases r1
  refine PySem.W.callWith_K (h₀ := X.base) I1.ok.mod.kin (keep_f x (by rw [← x.gt.len]; exact hi)) (thn (ha.run pos pins s1 σ _ _ I1 ht) fun us s2 ⟨vs, H2, I2, r, q⟩ => ⟨I2.kIn, ?_⟩) (star_cons hs.1) (star_none hs.2)
  exact run_f x (.inl hc) (fun ps _ _ _ => .inl ⟨rfl, rfl⟩) I2 r q
/-! ### keywords alone -/
def kwNames : List Keyword → Option (List Str) := Ev.mapO fun | ⟨some n, _, _⟩ => some n | _ => none
theorem kwNames_all {env : Env} {pos : Pos} : ∀ {kws : List Keyword} {ks : List Str}, kwNames kws = some ks → (backToKw pos (keywordEach kws env)).all (·.1.isSome) = true ∧ (backToKw pos (keywordEach kws env)).filterMap (·.1) = ks ∧ (backToKw pos (keywordEach kws env)).any (·.1.isNone) = false
  | [], ks, h => by cases h; exact ⟨rfl, rfl, rfl⟩
  | ⟨nm, e, p⟩ :: kws, ks, h => by
    unfold kwNames Ev.mapO at h
    cases nm with
    | none => cases h
    | some n =>
      simp only at h
      cases e2 : Ev.mapO (fun (x : Keyword) => match x with | ⟨some n, _, _⟩ => some n | _ => none) kws with
      | none => rw [e2] at h; cases h
      | some r =>
        rw [e2] at h
        cases h
        obtain ⟨i1, i2, i3⟩ := kwNames_all (env := env) (pos := pos) (kws := kws) (ks := r) e2
        refine ⟨?_, ?_, ?_⟩
        · show (true && (backToKw pos (keywordEach kws env)).all (·.1.isSome)) = true
          rw [i1]; rfl
        · show n :: (backToKw pos (keywordEach kws env)).filterMap (·.1) = n :: r
          rw [i2]
        · show (false || (backToKw pos (keywordEach kws env)).any (·.1.isNone)) = false
          rw [i3]; rfl
theorem pk_all {kws : List Keyword} : ∀ {xs : List Ev.E}, (∀ (j : Nat) kw, kws[j]? = some kw → ∃ e, xs[j]? = some e ∧ PE X kw.value (trE T k su W e)) → kws.length = xs.length → PK X kws (trA T k su W xs) := by
  induction kws with
  | nil =>
    intro xs h hl
    cases xs with
    | nil => exact pk_nil.wk fun σ H Q q => rdA_nil q
    | cons => simp at hl
  | cons kw kws ih =>
    intro xs h hl
    cases xs with
    | nil => simp at hl
    | cons y ys =>
      obtain ⟨e, e1, p1⟩ := h 0 kw rfl
      simp only [List.getElem?_cons_zero, Option.some.injEq] at e1
      subst e1
      obtain ⟨nm, v, kp⟩ := kw
      exact (pk_cons p1 (ih (fun j kw' hj => h (j + 1) kw' hj) (by simpa using hl))).wk fun σ H Q q => rdA_cons q
/-- which keyword's value each parameter takes -/
def permOf (ps ks : List Str) : Option (List Nat) := if decide ks.Nodup = true ∧ ps.length = ks.length ∧ ks.all (fun n => ps.contains n) = true then Ev.mapO (ixS ks) ps else none
theorem filterMap_get {us : List Value} : ∀ {ps : List Nat} {i : Nat} {w : Value}, (∀ p ∈ ps, p < us.length) → (ps.filterMap fun p => us[p]?)[i]? = some w → ∃ p, ps[i]? = some p ∧ us[p]? = some w
  | [], _, _, _, h => by simp at h
  | p :: ps, i, w, hp, h => by
    have e := List.getElem?_eq_getElem (hp p List.mem_cons_self)
    rw [List.filterMap_cons, e] at h
    cases i with
    | zero =>
      simp only [List.getElem?_cons_zero, Option.some.injEq] at h
      subst h
      exact ⟨p, rfl, e⟩
    | succ i =>
      simp only [List.getElem?_cons_succ] at h
      obtain ⟨q, h1, h2⟩ := filterMap_get (fun p hq => hp p (List.mem_cons_of_mem _ hq)) h
      exact ⟨q, by simpa using h1, h2⟩
theorem filterMap_len {us : List Value} : ∀ {ps : List Nat}, (∀ p ∈ ps, p < us.length) → (ps.filterMap fun p => us[p]?).length = ps.length
  | [], _ => rfl
  | p :: ps, hp => by
    rw [List.filterMap_cons, List.getElem?_eq_getElem (hp p List.mem_cons_self), List.length_cons, List.length_cons, filterMap_len fun p hq => hp p (List.mem_cons_of_mem _ hq)]
theorem pe_callKM (x : XT T G c k X W su) {n : Str} {i : Nat} {kws : List Keyword} {ks ps0 : List Str} {perm : List Nat} {xs : List Ev.E} {p pos : Pos} (hg : isGl c n = true) (hf : G.fnN.lookup n = some i) (hh : X.calm = true ∨ G.hot.getD i false = true)
    (hps : G.ps[i]? = some ps0) (hks : kwNames kws = some ks) (hpm : permOf ps0 ks = some perm) (hk : PK X kws (trA T k su W xs)) : PE X (.Call (.Name n p) [] kws pos) (trE T k su W (.callk i perm xs)) := by
  obtain ⟨g, ok⟩ := isGl_at x hg
  have hm : X.mg n = some (.ref (T.fa i)) := by rw [x.mg]; exact x.gt.fn _ _ hf
  have hi : i < G.ps.length := (List.getElem?_eq_some_iff.mp hps).1
  obtain ⟨k1, k2, k3⟩ := kwNames_all (env := X.env) (pos := pos) hks
  unfold permOf at hpm
  split at hpm
  · rename_i hc
    obtain ⟨c1, c2, c3⟩ := hc
    have c1 := of_decide_eq_true c1
    obtain ⟨m1, m2⟩ := mapO_some hpm
    refine ⟨fun pins s σ H Q I h => ?_⟩
    refine wpAny_Call_Name_kw (ld_glob I g hm ?_ (okName_1 ok))
    refine PySem.W.callWith_KW0 (h₀ := X.base) I.ok.mod.kin (keep_f x hi) k1 ?_ (by rw [k3]; rfl)
    refine thn (hk.run pos pins s σ H _ I (rd_callk h)) fun us s1 ⟨vs, H1, I1, r, hl, q⟩ => ⟨I1.kIn, ?_⟩
    rw [k2]
    have hlt : ∀ p ∈ perm, p < vs.length := fun p hp => by
      obtain ⟨j, hj⟩ := List.mem_iff_getElem?.mp hp
      have hjl : j < ps0.length := by rw [m1]; exact (List.getElem?_eq_some_iff.mp hj).1
      obtain ⟨y, h1, h2⟩ := m2 j _ (List.getElem?_eq_getElem hjl)
      rw [hj] at h1
      cases h1
      have := (List.getElem?_eq_some_iff.mp (ixS_get h2)).1
      rw [hl, ← m1, c2]
      exact this
    have hlu : ∀ p ∈ perm, p < us.length := fun p hp => by rw [← r.length]; exact hlt p hp
    have hku : ks.length = us.length := by rw [← r.length, hl, ← m1, c2]
    refine run_f (us := []) (ws := perm.filterMap fun p => us[p]?) x hh (fun ps ep nd hpl => .inr ⟨rfl, fun pr hp => ?_, ?_, fun j n w hn hw => ?_⟩) I1 (vals_pick r hlt) q
    · rw [hps] at ep
      cases ep
      exact List.all_eq_true.mp c3 _ (List.of_mem_zip hp).1
    · rw [List.map_fst_zip (by omega)]
      exact c1
    · rw [hps] at ep
      cases ep
      obtain ⟨q, hq, hu⟩ := filterMap_get hlu hw
      obtain ⟨y, h1, h2⟩ := m2 j n hn
      rw [hq] at h1
      cases h1
      exact lookup_zip c1 (ixS_get h2) hu
  · cases hpm
end
end EvB
set_option linter.all false
set_option maxRecDepth 100000
set_option maxHeartbeats 4000000
/-! EvB8: expressions: the text read into the evaluator's language, and that it does the same. -/
namespace EvB
open PySem PySem.Spec PyProof.Rows L2 EvM
open Ev (D Ob Mem Rs Lc Ky Cur)

/-! ### the reading of a text -/
def opI : Operator → Option Ev.Op2
  | .Add => some .add | .Sub => some .sub | .Mult => some .mul | .FloorDiv => some .fdiv | .Mod => some .mod | .Pow => some .pow | _ => none
theorem opI_of {o : Operator} {q : Ev.Op2} (h : opI o = some q) : o = opOf q := by
  cases o <;> cases h <;> rfl
def cmI : CmpOp → Option Ev.Cm
  | .Eq => some .eq | .NotEq => some .ne | .Lt => some .lt | .LtE => some .le | .Gt => some .gt | .GtE => some .ge | .Is => some .is | .IsNot => some .isnot | .In => some .inn | .NotIn => some .notin
theorem cmI_of {o : CmpOp} {q : Ev.Cm} (h : cmI o = some q) : o = cmOf q := by
  cases o <;> cases h <;> rfl
def cConst : Const → Option D
  | .none => some .non | .bool b => some (.bl b) | .int i => some (.int i) | .str s => some (.str s) | _ => none
/-- a target -/
def cG : Nat → Cc → Expr → Option Ev.Tg
  | 0, _, _ => none
  | n + 1, c, e => match e with
    | .Name x _ => (cSlot c x).map .nm
    | .Tuple es _ _ => if c.calm = true ∧ es.all bare1 = true then (Ev.mapO (cG n c) es).map .tup else none
    | _ => none
def compOwn (N : List Str) (scope : Scope) : List (Str × Nat) := scope.names.filterMap fun p => match p.2 with
  | .local => (ixS N p.1).map fun i => (p.1, i)
  | .cell => (ixS N p.1).map fun i => (p.1, i)
  | _ => none
abbrev CE := Cc → Expr → Option Ev.E
def rangeOf (e : Expr) : Option (List Expr) := match e with
  | .Call (.Name f _) es [] _ => if f = "range" then some es else none
  | _ => none
def cIt (ce : CE) (c : Cc) (e : Expr) : Option Ev.It := match rangeOf e with
  | some [a] => if isGl c "range" = true ∧ bare1 a = true then (ce c a).map .r1 else none
  | some [a, b] => if isGl c "range" = true ∧ bare1 a = true ∧ bare1 b = true then (match ce c a, ce c b with
    | some x, some y => some (.r2 x y)
    | _, _ => none) else none
  | some _ => none
  | none => (ce c e).map .e
def cIfs (ce : CE) (c : Cc) (ifs : List Expr) : Option (Option Ev.E) := match ifs with
  | [] => some none
  | [t] => (ce c t).map some
  | _ => none
def blkCc (c : Cc) (scope : Scope) : Cc := ⟨relS scope c.sc, c.N, c.calm, none, cellsOf scope⟩
def cComp (ce : CE) (c : Cc) (elt : Expr) (gs : List Comprehension) (scope : Scope) : Option Ev.E := match gs with
  | [⟨tg, iter, ifs, 0⟩] => if blkC c.N c.sc scope (compOwn c.N scope) = true then
      (match cIt ce c iter, cG 8 (blkCc c scope) tg, cIfs ce (blkCc c scope) ifs, ce (blkCc c scope) elt with
        | some it, some t, some cond, some x => if (slT t).all (fun i => ((compOwn c.N scope).map (·.2)).contains i) = true then some (.comp ((compOwn c.N scope).map (·.2)) x t it cond) else none
        | _, _, _, _ => none)
    else none
  | _ => none
def cPos (G : Gs) (ce : CE) (c : Cc) (x : Str) (es : List Expr) : Option Ev.E :=
  if es.all bare1 = true then (match isGl c x with
    | false => (match cVar c x with
      | some j => if c.calm = true ∧ es.isEmpty = false then (Ev.mapO (ce c) es).map (.callv (.var j)) else none
      | none => none)
    | true => (match G.fnN.lookup x with
      | some i => if i < G.ps.length ∧ (c.calm = true ∨ G.hot.getD i false = true) then (Ev.mapO (ce c) es).map (.call i) else none
      | none => if x = "isinstance" then (match es with
          | [a, t] => (match ce c a, cTys c t with
            | some e, some ts => some (.isi ts e)
            | _, _ => none)
          | _ => none)
        else (match bltTab.lookup (x, es.length) with
          | some b => if (hotB b = true ∨ c.calm = true) ∧ es.isEmpty = false then (Ev.mapO (ce c) es).map (.blt b) else none
          | none => none)))
  else none
def cKw (G : Gs) (ce : CE) (c : Cc) (x : Str) (kws : List Keyword) : Option Ev.E := match isGl c x with
  | false => none
  | true => (match G.fnN.lookup x with
    | some i => if c.calm = true ∨ G.hot.getD i false = true then (match G.ps[i]?, kwNames kws, Ev.mapO (fun kw => ce c kw.value) kws with
        | some ps, some ks, some xs => (permOf ps ks).map fun perm => .callk i perm xs
        | _, _, _ => none) else none
    | none => none)
def plainO : Expr → Bool
  | .Call .. => false
  | _ => true
def mthTab : List (Str × Ev.Mth) := [("append", .append), ("pop", .pop1)]
def cCall (G : Gs) (ce : CE) (c : Cc) (f : Expr) (es : List Expr) (kws : List Keyword) (pos : Pos) : Option Ev.E := match f with
  | .Name x _ => (match kws with
    | [] => cPos G ce c x es
    | _ :: _ => (match es with
      | [] => cKw G ce c x kws
      | _ :: _ => none))
  | .Attribute o m apos => (match es, kws with
    | [a], [] => if plainO o = true ∧ bare1 a = true ∧ (apos.endLine == pos.line) = true then (match mthTab.lookup m, ce c o, ce c a with
        | some t, some x, some y => some (.mth t x [y])
        | _, _, _ => none) else none
    | _, _ => none)
  | _ => none
def cPart (ce : CE) (c : Cc) (e : Option Expr) : Option (Option Ev.E) := match e with
  | none => some none
  | some e => (ce c e).map some
def cSub (ce : CE) (c : Cc) (a i : Expr) : Option Ev.E := match i with
  | .Slice lo hi none _ => (match ce c a, cPart ce c lo, cPart ce c hi with
    | some x, some l, some h => some (.slc x l h)
    | _, _, _ => none)
  | .Slice _ _ (some _) _ => none
  | i => (match ce c a, ce c i with
    | some x, some y => some (.idx x y)
    | _, _ => none)
def cBo (ce : CE) (c : Cc) (o : BoolOp) (vs : List Expr) (p : Pos) : Option Ev.E := match vs with
  | [] => none
  | [a] => ce c a
  | a :: b :: r => (match ce c a, ce c (.BoolOp o (b :: r) p) with
    | some x, some y => some (match o with | .And => .and x y | .Or => .or x y)
    | _, _ => none)
def cCmp (ce : CE) (c : Cc) (a : Expr) (ops : List CmpOp) (bs : List Expr) : Option Ev.E := match ops, bs with
  | [o], [b] => if behindInMarks o b = false then (match cmI o, ce c a, ce c b with
    | some q, some x, some y => some (.cmp q x y)
    | _, _, _ => none) else none
  | [o, o'], [b, d] => if lastMarks [o, o'] [b, d] = false then (match cmI o, cmI o', ce c a, ce c b, ce c d with
    | some q, some q', some x, some y, some z => some (.chn q q' x y z)
    | _, _, _, _, _ => none) else none
  | _, _ => none
def cAttr (G : Gs) (c : Cc) (o : Expr) (f : Str) : Option Ev.E := match o with
  | .Name x _ => (match cVar c x, ixS G.fdN f with
    | some j, some i => if c.hv = some j then some (.cf i) else none
    | _, _ => none)
  | _ => none
def cStep (G : Gs) (ce : CE) (c : Cc) (e : Expr) : Option Ev.E := match e with
  | .Name x _ => cName G c x
  | .Constant v _ _ => (cConst v).map .lit
  | .BinOp a o b _ => (match opI o, ce c a, ce c b with
    | some q, some x, some y => some (.op2 q x y)
    | _, _, _ => none)
  | .UnaryOp o a _ => (match o with
    | .USub => (ce c a).map .neg
    | .Not => (ce c a).map .not
    | _ => none)
  | .BoolOp o vs p => cBo ce c o vs p
  | .Compare a ops bs _ => cCmp ce c a ops bs
  | .IfExp t a b _ => (match ce c t, ce c a, ce c b with
    | some x, some y, some z => some (.ife x y z)
    | _, _, _ => none)
  | .Tuple es _ _ => if es.all bare1 = true ∧ es.length ≤ 1000 then (Ev.mapO (ce c) es).map .tup else none
  | .List es _ => if es.all bare1 = true ∧ es.length ≤ 1000 then (Ev.mapO (ce c) es).map .lst else none
  | .Dict ks vs _ => (match ks, vs with
    | [], [] => some .dct0
    | _, _ => none)
  | .Subscript a i _ => cSub ce c a i
  | .Call f es kws pos => cCall G ce c f es kws pos
  | .Attribute o f _ => cAttr G c o f
  | .ListComp elt gs scope _ => cComp ce c elt gs scope
  | _ => none
def cE (G : Gs) : Nat → CE
  | 0 => fun _ _ => none
  | n + 1 => cStep G (cE G n)

/-! ### it does the same -/
structure Sim (T : Tb) (k : Nat) (X : Cx) (W : WX) (su : Option SuR) (e : Expr) (x : Ev.E) : Prop where
  pe : PE X e (trE T k su W x)
  pt : PT X e (trT T k su W x)
  pw : ∀ op vs p, e = .BoolOp op vs p → PW X e (trT T k su W x)
def CEok (T : Tb) (G : Gs) (k : Nat) (ce : CE) : Prop := ∀ c e x, ce c e = some x → ∀ X W su, XT T G c k X W su → Sim T k X W su e x
section
variable {T : Tb} {G : Gs} {k : Nat} {ce : CE} {c : Cc} {X : Cx} {W : WX} {su : Option SuR}
theorem Sim.of {e : Expr} {x : Ev.E} (hK : X.K = T.K) (h : PE X e (trE T k su W x)) (he : ∀ whole, isTrue e X.env whole = (do let v ← whole; standAt e.pos; holding [v] (truthy v))) (hn : ∀ op vs p, e ≠ .BoolOp op vs p) : Sim T k X W su e x :=
  ⟨h, pt_of hK h he, fun op vs p z => absurd z (hn op vs p)⟩
/-- several -/
theorem pa_ce (H : CEok T G k ce) (x : XT T G c k X W su) : ∀ {es : List Expr} {xs : List Ev.E}, Ev.mapO (ce c) es = some xs → es.all bare1 = true → PA X es (trA T k su W xs)
  | [], xs, h, _ => by cases h; exact pa_nil.wk fun σ H Q q => rdA_nil q
  | e :: es, xs, h, hb => by
    simp only [List.all_cons, Bool.and_eq_true] at hb
    unfold Ev.mapO at h
    cases e1 : ce c e with
    | none => rw [e1] at h; cases h
    | some y =>
      rw [e1] at h
      cases e2 : Ev.mapO (ce c) es with
      | none => rw [e2] at h; cases h
      | some r =>
        rw [e2] at h
        cases h
        exact (pa_cons (H c e y e1 X W su x).pe (pa_ce H x e2 hb.2) (star_cons hb.1)).wk fun σ H Q q => rdA_cons q
theorem sim_const (x : XT T G c k X W su) {v : Const} {d : D} {j : Nat} {p : Pos} (h : cConst v = some d) : Sim T k X W su (.Constant v j p) (.lit d) := by
  refine Sim.of x.K ?_ (fun _ => rfl) (fun _ _ _ => by simp)
  cases v with
  | none => cases h; exact pe_non.wk fun σ H Q q => rd_lit (d := .non) (v := .non) (fun _ _ _ => rfl) q
  | bool b => cases h; exact pe_bl.wk fun σ H Q q => rd_lit (d := .bl b) (v := .bl b) (fun _ _ _ => rfl) q
  | int i => cases h; exact pe_int.wk fun σ H Q q => rd_lit (d := .int i) (v := .int i) (fun _ _ _ => rfl) q
  | str s => cases h; exact pe_str.wk fun σ H Q q => rd_lit (d := .str s) (v := .str s) (fun _ _ _ => rfl) q
  | _ => cases h
theorem sim_bin (H : CEok T G k ce) (x : XT T G c k X W su) {a b : Expr} {o : Operator} {e : Ev.E} {p : Pos} (h : (match opI o, ce c a, ce c b with
    | some q, some x, some y => some (.op2 q x y)
    | _, _, _ => none) = some e) : Sim T k X W su (.BinOp a o b p) e := by
  split at h
  · rename_i q y z h1 h2 h3
    cases h
    refine Sim.of x.K ?_ (fun _ => rfl) (fun _ _ _ => by simp)
    cases opI_of h1
    exact (pe_op (op2_ok q) (H _ _ _ h2 _ _ _ x).pe (H _ _ _ h3 _ _ _ x).pe).wk fun σ H Q q => rd_op2 (r := Ev.op2 _) (fun _ _ _ => rfl) (fun _ _ _ => op2_nx) q
  · cases h
theorem sim_bo (H : CEok T G k ce) (x : XT T G c k X W su) {o : BoolOp} {vs : List Expr} {e : Ev.E} {p : Pos} (h : cBo ce c o vs p = some e) : Sim T k X W su (.BoolOp o vs p) e := by
  unfold cBo at h
  split at h
  · cases h
  · rename_i a
    have s := H _ _ _ h _ _ _ x
    have w : PW X (.BoolOp o [a] p) (trT T k su W e) := by
      cases o with
      | And => exact pw_and1 s.pt
      | Or => exact pw_or1 s.pt
    exact ⟨pe_one s.pe, w.pt, fun _ _ _ z => by cases z; exact w⟩
  · rename_i a b r
    split at h
    · rename_i y z h1 h2
      have s1 := H _ _ _ h1 _ _ _ x
      have s2 := H _ _ _ h2 _ _ _ x
      cases o with
      | And =>
        cases h
        have w : PW X (.BoolOp .And (a :: b :: r) p) (trT T k su W (.and y z)) := (pw_and s1.pt (s2.pw _ _ _ rfl)).wk fun σ H Q q => rdT_and q
        exact ⟨(pe_andT s1.pe s2.pe).wk fun σ H Q q => by rw [x.K]; exact rd_and q, w.pt, fun _ _ _ z => by cases z; exact w⟩
      | Or =>
        cases h
        have w : PW X (.BoolOp .Or (a :: b :: r) p) (trT T k su W (.or y z)) := (pw_or s1.pt (s2.pw _ _ _ rfl)).wk fun σ H Q q => rdT_or q
        exact ⟨(pe_orT s1.pe s2.pe).wk fun σ H Q q => by rw [x.K]; exact rd_or q, w.pt, fun _ _ _ z => by cases z; exact w⟩
    · cases h
theorem bind_ok_inv {α β : Type} {r : Rs α} {f : α → Mem → Rs β} {b : β} {m' : Mem} (h : r.bind f = .ok b m') : ∃ a m1, r = .ok a m1 ∧ f a m1 = .ok b m' := by
  cases r with
  | ok a m1 => exact ⟨a, m1, rfl, h⟩
  | exc c fs m1 => cases h
  | stuck => cases h
theorem cmpV_ok {o : Ev.Cm} {x y d : D} {m m' : Mem} (h : Ev.cmpV o x y m = .ok d m') : ∃ b, d = .bl b := by
  rcases cmpV_bl (o := o) (x := x) (y := y) (m := m) with ⟨b, e⟩ | e
  · rw [e] at h; cases h; exact ⟨b, rfl⟩
  · rw [e] at h; cases h
theorem chn_bl {g : Ev.Cfg} {cur : Cur} {δ : Lc} {q q' : Ev.Cm} {a b e : Ev.E} {m m' : Mem} {d : D} (h : Ev.evE g cur δ (.chn q q' a b e) m = .ok d m') : ∃ b, d = .bl b := by
  obtain ⟨x, m1, _, h⟩ := bind_ok_inv (f := fun x m1 => (Ev.evE g cur δ b m1).bind fun y m2 => (Ev.cmpV q x y m2).bind fun z m3 => _) h
  obtain ⟨y, m2, _, h⟩ := bind_ok_inv h
  obtain ⟨z, m3, _, h⟩ := bind_ok_inv h
  split at h
  · obtain ⟨u, m4, _, h⟩ := bind_ok_inv h
    exact cmpV_ok h
  · cases h; exact ⟨_, rfl⟩
  · cases h
theorem rdT_bl {e : Ev.E} (hb : ∀ cur δ m d m', Ev.evE (cfg T k) cur δ e m = .ok d m' → ∃ b, d = .bl b) {σ : L2.St} {H : Hp} {Q : Bool → Hp → Prop} (h : trT T k su W e σ H Q) : trE T k su W e σ H fun x H' => ∃ b, x = .bl b ∧ Q b H' := by
  obtain ⟨cur, δ, m, φ, a, h⟩ := h
  refine ⟨cur, δ, m, φ, a, ?_⟩
  have h : OkB T φ m H ((Ev.evE (cfg T k) cur δ e m).bind fun x m1 => Ev.tru x m1) Q (WE W σ) := h
  show OkD T φ m H (Ev.evE (cfg T k) cur δ e m) _ _
  cases ee : Ev.evE (cfg T k) cur δ e m with
  | ok d m1 =>
    obtain ⟨b, rfl⟩ := hb _ _ _ _ _ ee
    rw [ee] at h
    intro φ' H' v x1 rm q
    cases q
    exact ⟨b, rfl, h φ' H' b x1 rm rfl⟩
  | exc c fs m1 => rw [ee] at h; exact h
  | stuck => rw [ee] at h; exact h
theorem sim_cmp (H : CEok T G k ce) (x : XT T G c k X W su) {a : Expr} {ops : List CmpOp} {bs : List Expr} {e : Ev.E} {p : Pos} (h : cCmp ce c a ops bs = some e) : Sim T k X W su (.Compare a ops bs p) e := by
  unfold cCmp at h
  split at h
  · split at h
    · rename_i hm
      split at h
      · rename_i q y z h1 h2 h3
        cases h
        cases cmI_of h1
        have s1 := H _ _ _ h2 _ _ _ x
        have s2 := H _ _ _ h3 _ _ _ x
        have ho := cmp_ok (X := X) x.K x.units q
        exact ⟨(pe_cmpR ho s1.pe s2.pe hm).wk fun σ H Q q => rd_op2 (r := Ev.cmpV _) (fun _ _ _ => rfl) (fun _ _ _ => cmpV_nx) q, (pt_cmpR ho s1.pe s2.pe hm).wk fun σ H Q q => rdT_cmp q, fun _ _ _ z => by cases z⟩
      · cases h
    · cases h
  · split at h
    · rename_i hm
      split at h
      · rename_i q q' y z u h1 h2 h3 h4 h5
        cases h
        cases cmI_of h1
        cases cmI_of h2
        have s1 := H _ _ _ h3 _ _ _ x
        have s2 := H _ _ _ h4 _ _ _ x
        have s3 := H _ _ _ h5 _ _ _ x
        have ho := cmp_ok (X := X) x.K x.units q
        have ho' := cmp_ok (X := X) x.K x.units q'
        refine ⟨(pe_chain ho ho' s1.pe s2.pe s3.pe hm).wk fun σ H Q q => rd_chn q, (pt_chain ho ho' s1.pe s2.pe s3.pe hm).wk fun σ H Q q => ?_, fun _ _ _ z => by cases z⟩
        exact rd_chn (rdT_bl (fun _ _ _ _ _ h => chn_bl h) q)
      · cases h
    · cases h
  · cases h
theorem pt_ifExp {t a b : Expr} {tA : TT} {ta tb : TT} {p : Pos} (h : PT X t tA) (ha : PT X a ta) (hb : PT X b tb) : PT X (.IfExp t a b p) (fun σ H Q => tA σ H fun c H1 => if c = true then ta σ H1 Q else tb σ H1 Q) := by
  refine ⟨fun pins s σ H Q I q => ?_⟩
  show wpAny _ _ (do if ← isTrue t X.env (eval t X.env) then isTrue a X.env (eval a X.env) else isTrue b X.env (eval b X.env)) _ _ s
  refine wpAny_bind (thn (h.run pins s σ H _ I q) fun c s1 ⟨H1, I1, q1⟩ => ?_)
  cases c with
  | true => exact ha.run pins s1 σ H1 Q I1 q1
  | false => exact hb.run pins s1 σ H1 Q I1 q1
theorem sim_ife (H : CEok T G k ce) (x : XT T G c k X W su) {t a b : Expr} {e : Ev.E} {p : Pos} (h : (match ce c t, ce c a, ce c b with
    | some x, some y, some z => some (.ife x y z)
    | _, _, _ => none) = some e) : Sim T k X W su (.IfExp t a b p) e := by
  split at h
  · rename_i y z u h1 h2 h3
    cases h
    have s1 := H _ _ _ h1 _ _ _ x
    have s2 := H _ _ _ h2 _ _ _ x
    have s3 := H _ _ _ h3 _ _ _ x
    refine ⟨(pe_ifExp s1.pt s2.pe s3.pe).wk fun σ H Q q => rd_ife q, (pt_ifExp s1.pt s2.pt s3.pt).wk fun σ H Q q => ?_, fun _ _ _ z => by cases z⟩
    obtain ⟨cur, δ, m, φ, at_, h⟩ := q
    have h : OkB T φ m H (((Ev.evE (cfg T k) cur δ y m).bind fun x m1 => (Ev.tru x m1).bind fun t m2 => (match t with | true => Ev.evE (cfg T k) cur δ z m2 | false => Ev.evE (cfg T k) cur δ u m2)).bind fun x m1 => Ev.tru x m1) Q (WE W σ) := h
    rw [bind_assoc] at h
    have e1 : (fun (a : D) (m : Mem) => ((Ev.tru a m).bind fun t m2 => (match t with | true => Ev.evE (cfg T k) cur δ z m2 | false => Ev.evE (cfg T k) cur δ u m2)).bind fun x m1 => Ev.tru x m1) = fun a m => (Ev.tru a m).bind fun t m2 => (match t with | true => Ev.evE (cfg T k) cur δ z m2 | false => Ev.evE (cfg T k) cur δ u m2).bind fun x m1 => Ev.tru x m1 := by
      funext a m
      rw [bind_assoc]
    rw [e1, ← bind_assoc] at h
    refine ⟨cur, δ, m, φ, at_, OkE.bind h fun t m1 φ1 H1 t' e1 rm1 q1 h1 => ?_⟩
    cases q1
    cases t with
    | true => exact ⟨cur, δ, m1, φ1, at_.ext e1 rm1, h1⟩
    | false => exact ⟨cur, δ, m1, φ1, at_.ext e1 rm1, h1⟩
  · cases h
theorem sim_un (H : CEok T G k ce) (x : XT T G c k X W su) {o : UnaryOp} {a : Expr} {e : Ev.E} {p : Pos} (h : (match o with
    | .USub => (ce c a).map .neg
    | .Not => (ce c a).map .not
    | _ => none) = some e) : Sim T k X W su (.UnaryOp o a p) e := by
  split at h
  · rw [Option.map_eq_some_iff] at h
    obtain ⟨y, h1, rfl⟩ := h
    have s1 := H _ _ _ h1 _ _ _ x
    exact Sim.of x.K ((pe_un un_neg s1.pe).wk fun σ H Q q => rd_neg q) (fun _ => rfl) (fun _ _ _ => by simp)
  · rw [Option.map_eq_some_iff] at h
    obtain ⟨y, h1, rfl⟩ := h
    have s1 := H _ _ _ h1 _ _ _ x
    exact ⟨(pe_notT s1.pe).wk fun σ H Q q => by rw [x.K]; exact rd_not q, (pt_not s1.pt).wk fun σ H Q q => rdT_not q, fun _ _ _ z => by cases z⟩
  · cases h
theorem sim_tup (H : CEok T G k ce) (x : XT T G c k X W su) {es : List Expr} {e : Ev.E} {j : Nat} {p : Pos} (h : (if es.all bare1 = true ∧ es.length ≤ 1000 then (Ev.mapO (ce c) es).map Ev.E.tup else none) = some e) : Sim T k X W su (.Tuple es j p) e := by
  split at h
  · rename_i hc
    rw [Option.map_eq_some_iff] at h
    obtain ⟨xs, h1, rfl⟩ := h
    have hl := (mapO_some h1).1
    exact Sim.of x.K ((pe_tup (pa_ce H x h1 hc.1)).wk fun σ H Q q => rd_tup (by omega) q) (fun _ => rfl) (fun _ _ _ => by simp)
  · cases h
theorem sim_lst (H : CEok T G k ce) (x : XT T G c k X W su) {es : List Expr} {e : Ev.E} {p : Pos} (h : (if es.all bare1 = true ∧ es.length ≤ 1000 then (Ev.mapO (ce c) es).map Ev.E.lst else none) = some e) : Sim T k X W su (.List es p) e := by
  split at h
  · rename_i hc
    rw [Option.map_eq_some_iff] at h
    obtain ⟨xs, h1, rfl⟩ := h
    have hl := (mapO_some h1).1
    exact Sim.of x.K ((pe_lst (pa_ce H x h1 hc.1)).wk fun σ H Q q => rd_lst (by omega) q) (fun _ => rfl) (fun _ _ _ => by simp)
  · cases h
theorem po_ce (H : CEok T G k ce) (x : XT T G c k X W su) {e : Option Expr} {y : Option Ev.E} (h : cPart ce c e = some y) : PO X e (trO T k su W y) := by
  cases e with
  | none => cases h; exact ⟨fun pins s σ H Q I q => po_none.run pins s σ H Q I q⟩
  | some e =>
    unfold cPart at h
    simp only [Option.map_eq_some_iff] at h
    obtain ⟨z, h1, rfl⟩ := h
    exact ⟨fun pins s σ H2 Q I q => (po_some (H _ _ _ h1 _ _ _ x).pe).run pins s σ H2 Q I q⟩
theorem sim_sub (H : CEok T G k ce) (x : XT T G c k X W su) {a i : Expr} {e : Ev.E} {p : Pos} (h : cSub ce c a i = some e) : Sim T k X W su (.Subscript a i p) e := by
  refine Sim.of x.K ?_ (fun _ => rfl) (fun _ _ _ => by simp)
  unfold cSub at h
  split at h
  · split at h
    · rename_i y l u h1 h2 h3
      cases h
      exact (pe_slice (slc_ok x.K) (H _ _ _ h1 _ _ _ x).pe (po_ce H x h2) (po_ce H x h3)).wk fun σ H Q q => rd_slc q
    · cases h
  · cases h
  · rename_i hn1 hn2
    split at h
    · rename_i y z h1 h2
      cases h
      refine (pe_ix (idx_ok x.K) (H _ _ _ h1 _ _ _ x).pe (H _ _ _ h2 _ _ _ x).pe fun o i2 => ?_).wk fun σ H Q q => rd_idx q
      cases i <;> first | rfl | skip
      rename_i lo hi st sp
      cases st with
      | none => exact absurd rfl (hn1 lo hi sp)
      | some st => exact absurd rfl (hn2 lo hi st sp)
    · cases h
theorem sim_attr (x : XT T G c k X W su) {o : Expr} {f : Str} {e : Ev.E} {p : Pos} (h : cAttr G c o f = some e) : Sim T k X W su (.Attribute o f p) e := by
  refine Sim.of x.K ?_ (fun _ => rfl) (fun _ _ _ => by simp)
  unfold cAttr at h
  split at h
  · rename_i n pn
    split at h
    · rename_i j i h1 h2
      split at h
      · rename_i hv
        cases h
        cases su with
        | none => have := x.hv; rw [hv] at this; cases this
        | some u =>
          have hj : u.j = some j := by have := x.hv; rw [hv] at this; exact this.symm
          obtain ⟨oe, pn2, Y, rfl, hz, hf⟩ := x.suc u rfl
          obtain ⟨v1, v2, v3, v4⟩ := cVar_at x h1
          have ef : T.fnm i = f := x.gt.fnm i f (ixS_get h2)
          refine ⟨fun pins s σ H Q I q => ?_⟩
          obtain ⟨c0, hc0, q⟩ := rd_cf hj q
          obtain ⟨xf, no⟩ := x.gt.fl c0 i hc0
          have xf' : XfC (Y.suite u.a ((u.a, oe) :: pn2)).K (T.ca c0) := by rw [x.K]; exact xf
          have no' : PySem.W.findIn (Y.suite u.a ((u.a, oe) :: pn2)).K (.ref (T.ca c0)) (T.fnm i) = some none := by rw [x.K]; exact no
          rw [ef] at no' q
          exact (pe_xf (X := Y) (pn := pn2) xf' no' ⟨hz.1, hz.2.1⟩ hf (pe_var v1 v2 v3 v4) rfl).run pins s σ H Q I q
      · cases h
    · cases h
  · cases h
end
end EvB
set_option linter.all false
set_option maxRecDepth 100000
set_option maxHeartbeats 4000000
/-! EvB9: calls, comprehensions, targets; the whole of the expressions. -/
namespace EvB
open PySem PySem.Spec PyProof.Rows L2 EvM
open Ev (D Ob Mem Rs Lc Ky Cur)
section
variable {T : Tb} {G : Gs} {k : Nat} {ce : CE} {c : Cc} {X : Cx} {W : WX} {su : Option SuR}

/-! ### targets -/
theorem PG.wk {X : Cx} {e : Expr} {t t' : TG} (h : PG X e t) (k : ∀ v σ H Q, t' v σ H Q → t v σ H Q) : PG X e t' := ⟨fun pins s σ H v u Q I r q => h.run pins s σ H v u Q I r (k _ _ _ _ q)⟩
theorem PGs.wk {X : Cx} {e : List Expr} {t t' : TGs} (h : PGs X e t) (k : ∀ v σ H Q, t' v σ H Q → t v σ H Q) : PGs X e t' := ⟨fun pins s σ H v u Q I r q => h.run pins s σ H v u Q I r (k _ _ _ _ q)⟩
theorem cG_bare {n : Nat} {e : Expr} {t : Ev.Tg} (h : cG n c e = some t) : (∃ x p, e = .Name x p) ∨ ∃ es j p, e = .Tuple es j p := by
  cases n with
  | zero => cases h
  | succ n =>
    unfold cG at h
    split at h
    · exact .inl ⟨_, _, rfl⟩
    · exact .inr ⟨_, _, _, rfl⟩
    · cases h
theorem assign_map {n : Nat} : ∀ {es : List Expr} {ts : List Ev.Tg} {env : Env}, Ev.mapO (cG n c) es = some ts → (assignEach es env).length = ts.length ∧ (assignEach es env).findIdx? (·.1) = none ∧ (assignEach es env).map (·.2) = es.map fun e => assign e env
  | [], ts, env, h => by cases h; exact ⟨rfl, rfl, rfl⟩
  | e :: es, ts, env, h => by
    unfold Ev.mapO at h
    cases e1 : cG n c e with
    | none => rw [e1] at h; cases h
    | some t =>
      rw [e1] at h
      cases e2 : Ev.mapO (cG n c) es with
      | none => rw [e2] at h; cases h
      | some r =>
        rw [e2] at h
        cases h
        obtain ⟨i1, i2, i3⟩ := assign_map (env := env) e2
        have hc : assignEach (e :: es) env = (false, assign e env) :: assignEach es env := by
          rcases cG_bare e1 with ⟨x, p, rfl⟩ | ⟨es', j, p, rfl⟩ <;> rfl
        rw [hc]
        refine ⟨by simp [i1], ?_, by simp [i3]⟩
        rw [List.findIdx?_cons]
        simp [i2]
theorem pg_ok (x : XT T G c k X W su) : ∀ (n : Nat) {e : Expr} {t : Ev.Tg}, cG n c e = some t → PG X e (trG T t)
  | 0, _, _, h => by cases h
  | n + 1, e, t, h => by
    unfold cG at h
    split at h
    · rename_i y p
      rw [Option.map_eq_some_iff] at h
      obtain ⟨i, hi, rfl⟩ := h
      obtain ⟨a1, a2, a3, a4⟩ := cSlot_at x hi
      exact PG.wk (pg_name (x := y) x.nd' a1 a2 a3) fun v σ H Q q => rdG_nm q
    · rename_i es j p
      split at h
      · rename_i hc
        rw [Option.map_eq_some_iff] at h
        obtain ⟨ts, h1, rfl⟩ := h
        obtain ⟨a1, a2, _⟩ := assign_map (env := X.env) h1
        have all : ∀ {es : List Expr} {ts : List Ev.Tg}, Ev.mapO (cG n c) es = some ts → PGs X es (trGs T ts) := by
          intro es
          induction es with
          | nil => intro ts h; cases h; exact PGs.wk pgs_nil fun v σ H Q q => rdGs_nil q
          | cons e es ih =>
            intro ts h
            have h0 := h
            unfold Ev.mapO at h
            cases e1 : cG n c e with
            | none => rw [e1] at h; cases h
            | some t =>
              rw [e1] at h
              cases e2 : Ev.mapO (cG n c) es with
              | none => rw [e2] at h; cases h
              | some r =>
                rw [e2] at h
                cases h
                have m1 := (assign_map (env := X.env) h0).2.2
                have m2 := (assign_map (env := X.env) e2).2.2
                exact PGs.wk (pgs_cons (pg_ok x n e1) (ih e2) (by rw [m1, m2]; rfl)) fun v σ H Q q => rdGs_cons q
        exact PG.wk (pg_tup (X := X) (n := ts.length) (x.calm hc.1) (all h1) a1 a2) fun v σ H Q q => by
          rw [x.K]
          exact rdG_tup q
      · cases h
    · cases h

/-! ### calls -/
theorem sim_pos (H : CEok T G k ce) (x : XT T G c k X W su) {n : Str} {es : List Expr} {e : Ev.E} {p pos : Pos} (h : cPos G ce c n es = some e) : PE X (.Call (.Name n p) es [] pos) (trE T k su W e) := by
  unfold cPos at h
  split at h
  · rename_i hb
    split at h
    · split at h
      · rename_i j hj
        split at h
        · rename_i hc
          rw [Option.map_eq_some_iff] at h
          obtain ⟨xs, h1, rfl⟩ := h
          cases es with
          | nil => cases hc.2
          | cons a es => exact pe_callVM x hj (x.calm hc.1) (pa_ce H x h1 hb) hb
        · cases h
      · cases h
    · rename_i hg
      split at h
      · rename_i i hi
        split at h
        · rename_i hc
          rw [Option.map_eq_some_iff] at h
          obtain ⟨xs, h1, rfl⟩ := h
          have hh : X.calm = true ∨ G.hot.getD i false = true := hc.2.imp x.calm id
          cases es with
          | nil => cases h1; exact pe_callM0 x hg hi hc.1 hh
          | cons a es => exact pe_callM x hg hi hc.1 hh (pa_ce H x h1 hb) hb
        · cases h
      · split at h
        · rename_i hn
          split at h
          · rename_i a t
            split at h
            · rename_i y ts h1 h2
              cases h
              subst hn
              simp only [List.all_cons, Bool.and_eq_true] at hb
              exact pe_isi x hg (H _ _ _ h1 _ _ _ x).pe hb.1 h2
            · cases h
          · cases h
        · split at h
          · rename_i b hl
            split at h
            · rename_i hc
              rw [Option.map_eq_some_iff] at h
              obtain ⟨xs, h1, rfl⟩ := h
              cases bltTab_name hl
              have hh : hotB b = false → X.calm = true := fun hz => x.calm (hc.1.resolve_left (by rw [hz]; simp))
              cases es with
              | nil => cases hc.2
              | cons a es => exact pe_blt x hg hh (pa_ce H x h1 hb) hb
            · cases h
          · cases h
  · cases h
theorem sim_kw (H : CEok T G k ce) (x : XT T G c k X W su) {n : Str} {kws : List Keyword} {e : Ev.E} {p pos : Pos} (h : cKw G ce c n kws = some e) : PE X (.Call (.Name n p) [] kws pos) (trE T k su W e) := by
  unfold cKw at h
  split at h
  · cases h
  · rename_i hg
    split at h
    · rename_i i hi
      split at h
      · rename_i hc
        split at h
        · rename_i ps ks xs h1 h2 h3
          rw [Option.map_eq_some_iff] at h
          obtain ⟨perm, h4, rfl⟩ := h
          have hh : X.calm = true ∨ G.hot.getD i false = true := hc.imp x.calm id
          obtain ⟨m1, m2⟩ := mapO_some h3
          refine pe_callKM x hg hi hh h1 h2 h4 (pk_all (fun j kw hj => ?_) m1)
          obtain ⟨y, e1, e2⟩ := m2 j kw hj
          exact ⟨y, e1, (H _ _ _ e2 _ _ _ x).pe⟩
        · cases h
      · cases h
    · cases h
theorem mthTab_ok {m : Str} {t : Ev.Mth} (h : mthTab.lookup m = some t) : Slot "list" m (mthId t) ∧ typeOf (.builtin (mthId t)) = pure (.type "method_descriptor") := by
  unfold mthTab at h
  rw [List.lookup_cons] at h
  split at h
  · rename_i e
    cases h
    have e2 : m = "append" := by simpa using e
    subst e2
    exact ⟨F.slot_list_append, F.type_list_append⟩
  · rw [List.lookup_cons] at h
    split at h
    · rename_i e
      cases h
      have e2 : m = "pop" := by simpa using e
      subst e2
      exact ⟨F.slot_list_pop, F.type_list_pop⟩
    · cases h
theorem plain_base {o : Expr} {m : Str} {env : Env} (h : plainO o = true) : attributeBase o m env (eval o env) = eval o env := by
  cases o <;> first | rfl | cases h
theorem sim_call (H : CEok T G k ce) (x : XT T G c k X W su) {f : Expr} {es : List Expr} {kws : List Keyword} {e : Ev.E} {pos : Pos} (h : cCall G ce c f es kws pos = some e) : Sim T k X W su (.Call f es kws pos) e := by
  refine Sim.of x.K ?_ (fun _ => rfl) (fun _ _ _ => by simp)
  unfold cCall at h
  split at h
  · split at h
    · exact sim_pos H x h
    · split at h
      · exact sim_kw H x h
      · cases h
  · split at h
    · rename_i a
      split at h
      · rename_i hc
        split at h
        · rename_i t y z h1 h2 h3
          cases h
          obtain ⟨s1, s2⟩ := mthTab_ok h1
          have pa : PA X [a] (trA T k su W [z]) := (pa_cons (H _ _ _ h3 _ _ _ x).pe pa_nil (star_cons hc.2.1)).wk fun σ H Q q => by
            have q1 := rdA_cons q
            obtain ⟨cur, δ, m, φ, at_, h⟩ := q1
            exact ⟨cur, δ, m, φ, at_, h.imp fun a m' φ' H' b x1 rm1 q1 q => rdA_nil q⟩
          refine (pe_bm (X := X) F.plainAttrs_list s1 s2 (mth_ok t) (H _ _ _ h2 _ _ _ x).pe pa (plain_base hc.1) ?_ hc.2.2 (star_cons hc.2.1) rfl).wk fun σ H Q q => by rw [x.K]; exact rd_mth q
          rw [star_cons hc.2.1]
          rfl
        · cases h
      · cases h
    · cases h
  · cases h
/-! ### what is walked -/
theorem PIwk {X : Cx} {tg e : Expr} {t t' : TI} (h : EvM.PI X tg e t) (k : ∀ σ H R, t' σ H R → t σ H R) : EvM.PI X tg e t' := ⟨fun pins s σ H R I q => h.run pins s σ H R I (k _ _ _ q)⟩
theorem rangeOf_some {e : Expr} {es : List Expr} (h : rangeOf e = some es) : ∃ p pos, e = .Call (.Name "range" p) es [] pos := by
  unfold rangeOf at h
  split at h
  · split at h
    · rename_i hn
      cases h
      subst hn
      exact ⟨_, _, rfl⟩
    · cases h
  · cases h
def noSet : Expr → Bool
  | .Set .. => false
  | _ => true
theorem fold_ok {e : Expr} {env : Env} (h : noSet e = true) : ∀ x, foldedSetIterable e env x = pure x := by
  intro x
  cases e <;> first | rfl | cases h
/-- what is never a set display -/
def NoSet (ce : CE) : Prop := ∀ c e x, ce c e = some x → noSet e = true
theorem pi_ok (H : CEok T G k ce) (hS : NoSet ce) (x : XT T G c k X W su) {tg e : Expr} {it : Ev.It} (h : cIt ce c e = some it) : EvM.PI X tg e (trI T k su W it) ∧ noSet e = true := by
  unfold cIt at h
  have hno : X.mg "range" = none := by rw [x.mg]; exact x.gt.no _ (by decide +kernel)
  split at h
  · rename_i a hr
    obtain ⟨p, pos, rfl⟩ := rangeOf_some hr
    split at h
    · rename_i hc
      rw [Option.map_eq_some_iff] at h
      obtain ⟨y, h1, rfl⟩ := h
      obtain ⟨g, ok⟩ := isGl_at x hc.1
      exact ⟨PIwk (pi_r1 (tg := tg) g hno (H _ _ _ h1 _ _ _ x).pe (star_cons hc.2)) fun σ H R q => rdI_r1 q, rfl⟩
    · cases h
  · rename_i a b hr
    obtain ⟨p, pos, rfl⟩ := rangeOf_some hr
    split at h
    · rename_i hc
      split at h
      · rename_i y z h1 h2
        cases h
        obtain ⟨g, ok⟩ := isGl_at x hc.1
        refine ⟨PIwk (pi_r2 (tg := tg) g hno (H _ _ _ h1 _ _ _ x).pe (H _ _ _ h2 _ _ _ x).pe ?_ (star_cons hc.2.2)) fun σ H R q => rdI_r2 q, rfl⟩
        rw [star_cons hc.2.1, star_cons hc.2.2]
        rfl
      · cases h
    · cases h
  · cases h
  · rw [Option.map_eq_some_iff] at h
    obtain ⟨y, h1, rfl⟩ := h
    exact ⟨PIwk (pi_walk (tg := tg) (H _ _ _ h1 _ _ _ x).pe) fun σ H R q => by rw [x.K]; exact rdI_e q, hS _ _ _ h1⟩

/-! ### comprehensions -/
theorem takesF {X : Cx} : L2N.Takes X WF := fun u s' xe => by
  obtain ⟨a, B, sI, pins, σ, H, cls, d, e, I, nb, up, sky, na, os, ag, w⟩ := xe
  exact w.elim
theorem xt_blk (x : XT T G c k X W su) {own : List (Str × Nat)} {scope : Scope} (ok : BlkOk c.N c.sc scope own) (s : Shared) (H : Hp) (C : Addr) (cl : List (Str × Addr)) (fp : List Addr) : XT T G (blkCc c scope) k (blkP X s H scope (compEnvC scope cl C X.env) fp) WF none where
  gt := x.gt
  prog := x.prog
  w := x.w
  K := x.K
  mg := x.mg
  N := x.N
  nd := x.nd
  sc := by
    show relabel scope X.env = relS scope c.sc
    rw [← x.sc]
    rfl
  tk := takesF
  mild := x.mild.blkP
  calm := x.calm
  room := ⟨x.room.calm, x.room.hot⟩
  hv := rfl
  cw := fun y hy => by
    obtain ⟨p, hp, e⟩ := List.mem_filterMap.mp hy
    have u := ok.uniq p hp
    split at e
    · rename_i ek
      cases e
      rw [ek] at u
      show (scope.names.lookup p.1 == some .cell) = true
      rw [u]
      rfl
    · cases e
  suc := fun u h => by cases h
theorem pts_ok (H : CEok T G k ce) {ifs : List Expr} {cond : Option Ev.E} (h : cIfs ce c ifs = some cond) {X : Cx} (x : XT T G c k X WF none) : PTs X ifs (trC T k cond) := by
  unfold cIfs at h
  split at h
  · cases h; exact pts_nil
  · rw [Option.map_eq_some_iff] at h
    obtain ⟨y, h1, rfl⟩ := h
    exact pts_one (H _ _ _ h1 _ _ _ x).pt
  · cases h
/-- a comprehension's parts -/
structure CompOk (T : Tb) (k : Nat) (X : Cx) (W : WX) (su : Option SuR) (elt tg iter : Expr) (ifs : List Expr) (scope : Scope) (own : List (Str × Nat)) (x : Ev.E) (t : Ev.Tg) (it : Ev.It) (cond : Option Ev.E) : Prop where
  blk : BlkOk X.N X.env.scope scope own
  pi : EvM.PI X tg iter (trI T k su W it)
  ns : noSet iter = true
  pg : ∀ (s : Shared) (H : Hp) (C : Addr) (cl : List (Str × Addr)) (fp : List Addr), PG (blkP X s H scope (compEnvC scope cl C X.env) fp) tg (trG T t)
  pt : ∀ (s : Shared) (H : Hp) (C : Addr) (cl : List (Str × Addr)) (fp : List Addr), PTs (blkP X s H scope (compEnvC scope cl C X.env) fp) ifs (trC T k cond)
  pe : ∀ (s : Shared) (H : Hp) (C : Addr) (cl : List (Str × Addr)) (fp : List Addr), PE (blkP X s H scope (compEnvC scope cl C X.env) fp) elt (trE T k none WF x)
  own : ∀ i ∈ slT t, i ∈ own.map (·.2)
theorem comp_ok (H : CEok T G k ce) (hS : NoSet ce) (x : XT T G c k X W su) {elt : Expr} {gs : List Comprehension} {scope : Scope} {e : Ev.E} (h : cComp ce c elt gs scope = some e) :
    ∃ tg iter ifs y t it cond, gs = [⟨tg, iter, ifs, 0⟩] ∧ e = .comp ((compOwn c.N scope).map (·.2)) y t it cond ∧ CompOk T k X W su elt tg iter ifs scope (compOwn c.N scope) y t it cond := by
  unfold cComp at h
  split at h
  · rename_i tg iter ifs
    split at h
    · rename_i hb
      split at h
      · rename_i it t cond y h1 h2 h3 h4
        split at h
        · rename_i ho
          cases h
          obtain ⟨p1, p2⟩ := pi_ok (tg := tg) H hS x h1
          refine ⟨tg, iter, ifs, y, t, it, cond, rfl, rfl, by rw [x.N, x.sc]; exact blkOk_by hb, p1, p2, fun s H' C cl fp => pg_ok (xt_blk x (blkOk_by hb) s H' C cl fp) 8 h2, fun s H' C cl fp => pts_ok H h3 (xt_blk x (blkOk_by hb) s H' C cl fp), fun s H' C cl fp => (H _ _ _ h4 _ _ _ (xt_blk x (blkOk_by hb) s H' C cl fp)).pe, fun i hi => ?_⟩
          have := List.all_eq_true.mp ho i hi
          simpa using this
        · cases h
      · cases h
    · cases h
  · cases h
theorem sim_comp (H : CEok T G k ce) (hS : NoSet ce) (x : XT T G c k X W su) {elt : Expr} {gs : List Comprehension} {scope : Scope} {e : Ev.E} {p : Pos} (h : cComp ce c elt gs scope = some e) : Sim T k X W su (.ListComp elt gs scope p) e := by
  obtain ⟨tg, iter, ifs, y, t, it, cond, rfl, rfl, o⟩ := comp_ok H hS x h
  refine Sim.of x.K ?_ (fun _ => rfl) (fun _ _ _ => by simp)
  exact (pe_lcM x.mild x.nd' o.pi o.blk o.pg o.pt o.pe (fold_ok o.ns)).wk fun σ H Q q => rd_comp o.own q

/-! ### all expressions -/
theorem noSet_step {G : Gs} : NoSet (cStep G ce) := fun c e x h => by
  cases e <;> first | rfl | cases h
theorem noSet_cE : ∀ n, NoSet (cE G n)
  | 0 => fun c e x h => by cases h
  | n + 1 => noSet_step
theorem step_ok (H : CEok T G k ce) (hS : NoSet ce) : CEok T G k (cStep G ce) := fun c e y h X W su x => by
  cases e with
  | Name n p => exact Sim.of x.K (pe_name x h) (fun _ => rfl) (fun _ _ _ => by simp)
  | Constant v j p =>
    unfold cStep at h
    simp only [Option.map_eq_some_iff] at h
    obtain ⟨d, h1, rfl⟩ := h
    exact sim_const x h1
  | BinOp a o b p => exact sim_bin H x h
  | UnaryOp o a p => exact sim_un H x h
  | BoolOp o vs p => exact sim_bo H x h
  | Compare a ops bs p => exact sim_cmp H x h
  | IfExp t a b p => exact sim_ife H x h
  | Tuple es j p => exact sim_tup H x h
  | List es p => exact sim_lst H x h
  | Dict ks vs p =>
    unfold cStep at h
    simp only at h
    split at h
    · cases h
      exact Sim.of x.K (pe_dnewK.wk fun σ H Q q => rd_dct0 q) (fun _ => rfl) (fun _ _ _ => by simp)
    · cases h
  | Subscript a i p => exact sim_sub H x h
  | Call f es kws p => exact sim_call H x h
  | Attribute o f p => exact sim_attr x h
  | ListComp elt gs scope p => exact sim_comp H hS x h
  | _ => cases h
theorem cE_ok : ∀ n, CEok T G k (cE G n)
  | 0 => fun c e x h => by cases h
  | n + 1 => step_ok (cE_ok n) (noSet_cE n)
end
end EvB
set_option linter.all false
set_option maxRecDepth 100000
set_option maxHeartbeats 4000000
/-! EvB10: what a statement's evaluation promises. -/
namespace EvB
open PySem PySem.Spec PyProof.Rows L2
open Ev (D Ob Mem Rs RS Lc Ky Cur)

def SuK (su : Option SuR) (σ : L2.St) : Prop := ∀ u i, su = some u → u.j = some i → σ[i]? = some (some (.ref u.a))
def OkS (T : Tb) (su : Option SuR) (φ : Nat → Addr) (m : Mem) (H : Hp) (r : RS) (D : Ends) (W : WX) : Prop := match r with
  | .ok (.next δ') m' => ∀ φ' H' σ', Ext φ m.length H φ' m'.length H' → RM T φ' m' H' → RL T φ' m'.length H' δ' σ' → SuK su σ' → D.nx σ' H'
  | .ok (.brk δ') m' => ∀ φ' H' σ', Ext φ m.length H φ' m'.length H' → RM T φ' m' H' → RL T φ' m'.length H' δ' σ' → SuK su σ' → D.bk σ' H'
  | .ok (.cont δ') m' => ∀ φ' H' σ', Ext φ m.length H φ' m'.length H' → RM T φ' m' H' → RL T φ' m'.length H' δ' σ' → SuK su σ' → D.ct σ' H'
  | .ok (.ret d) m' => ∀ φ' H' v, Ext φ m.length H φ' m'.length H' → RM T φ' m' H' → RD T φ' m'.length H' d v → D.rt v H'
  | .exc c fs δ' m' => ∀ φ' H' dx σ', Ext φ m.length H φ' m'.length H' → RM T φ' m' H' → RL T φ' m'.length H' δ' σ' → XD T c φ' m'.length H' fs dx → W (.ref (T.ca c)) dx σ' H'
  | .stuck => False
def rdS (T : Tb) (su : Option SuR) (W : WX) (f : Cur → Lc → Mem → RS) : TS := fun D σ H => ∃ cur δ m φ, At T su cur δ m φ σ H ∧ OkS T su φ m H (f cur δ m) D W
def trS (T : Tb) (k : Nat) (su : Option SuR) (W : WX) (s : Ev.S) : TS := rdS T su W fun cur δ m => Ev.evS (cfg T k) cur s δ m
def trSs (T : Tb) (k : Nat) (su : Option SuR) (W : WX) (s : List Ev.S) : TS := rdS T su W fun cur δ m => Ev.evSs (cfg T k) cur s δ m
section
variable {T : Tb} {su : Option SuR} {φ φ' : Nat → Addr} {m m' : Mem} {H H' : Hp} {W : WX} {D : Ends} {cur : Cur} {δ : Lc} {σ : L2.St}
theorem OkS.rebase {r : RS} (h : OkS T su φ m H r D W) (x : Ext φ m.length H φ' m'.length H') : OkS T su φ' m' H' r D W := by
  cases r with
  | ok o m1 => cases o with
    | next δ' => exact fun φ1 H1 σ1 e => h φ1 H1 σ1 (x.trans e)
    | ret d => exact fun φ1 H1 σ1 e => h φ1 H1 σ1 (x.trans e)
    | brk δ' => exact fun φ1 H1 σ1 e => h φ1 H1 σ1 (x.trans e)
    | cont δ' => exact fun φ1 H1 σ1 e => h φ1 H1 σ1 (x.trans e)
  | exc c fs δ' m1 => exact fun φ1 H1 dx σ1 e => h φ1 H1 dx σ1 (x.trans e)
  | stuck => exact h
theorem At.suk (a : At T su cur δ m φ σ H) : SuK su σ := fun u i hu hi => by
  have := a.cu
  rw [hu] at this
  obtain ⟨c, fs, _, _, _, h⟩ := this
  exact h i hi
/-- from a later state -/
theorem At.next (a : At T su cur δ m φ σ H) {δ' : Lc} {σ' : L2.St} (x : Ext φ m.length H φ' m'.length H') (rm : RM T φ' m' H') (rl : RL T φ' m'.length H' δ' σ') (s : SuK su σ') : At T su cur δ' m' φ' σ' H' := by
  refine ⟨rm, rl, ?_⟩
  have q := a.cu.ext a.rm x
  cases su with
  | none => trivial
  | some u =>
    obtain ⟨c, fs, h1, h2, h3, _⟩ := q
    exact ⟨c, fs, h1, h2, h3, fun i hi => s u i rfl hi⟩
/-- behind a value -/
theorem OkS.of {α β : Type} {rel : (Nat → Addr) → Nat → Hp → α → β → Prop} {r : Rs α} {f : α → Mem → RS} {Q1 : β → Hp → Prop} (a : At T su cur δ m φ σ H) (h : OkS T su φ m H (RS.of r δ f) D W)
    (k : ∀ a m' φ' H' b, Ext φ m.length H φ' m'.length H' → RM T φ' m' H' → rel φ' m'.length H' a b → OkS T su φ' m' H' (f a m') D W → Q1 b H') : OkE T rel φ m H r Q1 (WE W σ) := by
  cases r with
  | ok x m1 => exact fun φ1 H1 b e1 rm1 q => k x m1 φ1 H1 b e1 rm1 q (OkS.rebase (m' := m1) h e1)
  | exc c fs m1 => exact fun φ1 H1 dx e1 rm1 q => h φ1 H1 dx σ e1 rm1 (a.rl.ext a.rm e1) q
  | stuck => exact h
/-- behind a statement -/
theorem OkS.seq {r : RS} {f : Lc → Mem → RS} {nx : L2.St → Hp → Prop} (h : OkS T su φ m H (r.then f) D W)
    (k : ∀ δ' m' φ' H' σ', Ext φ m.length H φ' m'.length H' → RM T φ' m' H' → RL T φ' m'.length H' δ' σ' → SuK su σ' → OkS T su φ' m' H' (f δ' m') D W → nx σ' H') : OkS T su φ m H r { D with nx := nx } W := by
  cases r with
  | ok o m1 => cases o with
    | next δ' => exact fun φ1 H1 σ1 e rm rl s => k δ' m1 φ1 H1 σ1 e rm rl s (OkS.rebase (m' := m1) h e)
    | ret d => exact h
    | brk δ' => exact h
    | cont δ' => exact h
  | exc c fs δ' m1 => exact h
  | stuck => exact h
/-- a loop's body -/
theorem OkS.turn {r : RS} {f : Lc → Mem → RS} {N : L2.St → Hp → Prop} (h : OkS T su φ m H (Ev.turnF r f) D W)
    (k : ∀ δ' m' φ' H' σ', Ext φ m.length H φ' m'.length H' → RM T φ' m' H' → RL T φ' m'.length H' δ' σ' → SuK su σ' → OkS T su φ' m' H' (f δ' m') D W → N σ' H') : OkS T su φ m H r { D with nx := N, ct := N, bk := D.nx } W := by
  cases r with
  | ok o m1 => cases o with
    | next δ' => exact fun φ1 H1 σ1 e rm rl s => k δ' m1 φ1 H1 σ1 e rm rl s (OkS.rebase (m' := m1) h e)
    | ret d => exact h
    | brk δ' => exact h
    | cont δ' => exact fun φ1 H1 σ1 e rm rl s => k δ' m1 φ1 H1 σ1 e rm rl s (OkS.rebase (m' := m1) h e)
  | exc c fs δ' m1 => exact h
  | stuck => exact h
end
theorem PS.wk {X : Cx} {e : Stmt} {t t' : TS} (h : PS X e t) (k : ∀ D σ H, t' D σ H → t D σ H) : PS X e t' := ⟨fun pins s σ H D I q => h.run pins s σ H D I (k _ _ _ q)⟩
theorem PSs.wk {X : Cx} {e : List Stmt} {t t' : TS} (h : PSs X e t) (k : ∀ D σ H, t' D σ H → t D σ H) : PSs X e t' := ⟨fun pins s σ H D I q => h.run pins s σ H D I (k _ _ _ q)⟩
section
variable {T : Tb} {k : Nat} {su : Option SuR} {W : WX} {D : Ends} {σ : L2.St} {H : Hp}
theorem rdS_nil (h : trSs T k su W [] D σ H) : tNext D σ H := by
  obtain ⟨cur, δ, m, φ, a, h⟩ := h
  exact h φ H σ .refl a.rm a.rl a.suk
theorem rdS_cons {s : Ev.S} {ss : List Ev.S} (h : trSs T k su W (s :: ss) D σ H) : tSeq (trS T k su W s) (trSs T k su W ss) D σ H := by
  obtain ⟨cur, δ, m, φ, a, h⟩ := h
  exact ⟨cur, δ, m, φ, a, OkS.seq h fun δ' m' φ' H' σ' e rm rl s h' => ⟨cur, δ', m', φ', a.next e rm rl s, h'⟩⟩
theorem rdS_ex {e : Ev.E} (h : trS T k su W (.ex e) D σ H) : tDrop (trE T k su W e) D σ H := by
  obtain ⟨cur, δ, m, φ, a, h⟩ := h
  exact ⟨cur, δ, m, φ, a, OkS.of a h fun x m1 φ1 H1 v e1 rm1 q1 h1 => h1 φ1 H1 σ .refl rm1 (a.rl.ext a.rm e1) a.suk⟩
theorem rdS_ret {e : Ev.E} (h : trS T k su W (.ret e) D σ H) : tRet (trE T k su W e) D σ H := by
  obtain ⟨cur, δ, m, φ, a, h⟩ := h
  exact ⟨cur, δ, m, φ, a, OkS.of a h fun x m1 φ1 H1 v e1 rm1 q1 h1 => h1 φ1 H1 v .refl rm1 q1⟩
theorem rdS_retN (h : trS T k su W .retN D σ H) : tRetN D σ H := by
  obtain ⟨cur, δ, m, φ, a, h⟩ := h
  exact h φ H .non .refl a.rm rfl
theorem rdS_pass (h : trS T k su W .pass D σ H) : tNext D σ H := by
  obtain ⟨cur, δ, m, φ, a, h⟩ := h
  exact h φ H σ .refl a.rm a.rl a.suk
theorem rdS_brk (h : trS T k su W .brk D σ H) : tBreak D σ H := by
  obtain ⟨cur, δ, m, φ, a, h⟩ := h
  exact h φ H σ .refl a.rm a.rl a.suk
theorem rdS_cont (h : trS T k su W .cont D σ H) : tCont D σ H := by
  obtain ⟨cur, δ, m, φ, a, h⟩ := h
  exact h φ H σ .refl a.rm a.rl a.suk
theorem rdS_ife {e : Ev.E} {p q : List Ev.S} (h : trS T k su W (.ife e p q) D σ H) : tIfS (trT T k su W e) (trSs T k su W p) (trSs T k su W q) D σ H := by
  obtain ⟨cur, δ, m, φ, a, h⟩ := h
  refine ⟨cur, δ, m, φ, a, OkS.of a h fun t m1 φ1 H1 t' e1 rm1 q1 h1 => ?_⟩
  cases q1
  cases t with
  | true => exact ⟨cur, δ, m1, φ1, a.ext e1 rm1, h1⟩
  | false => exact ⟨cur, δ, m1, φ1, a.ext e1 rm1, h1⟩
/-- a store -/
theorem rd_store {t : Ev.Tg} {cur : Cur} {δ : Lc} {m : Mem} {φ : Nat → Addr} {d : Ev.D} {v : V} {Q : L2.St → Hp → Prop} {f : Lc → RS} (a : At T su cur δ m φ σ H) (q : RD T φ m.length H d v) (hj : ∀ u i, su = some u → u.j = some i → i ∉ slT t)
    (h : OkS T su φ m H (Ev.stThen (Ev.stTg t d δ) .stuck f) D W) (k : ∀ δ' σ', At T su cur δ' m φ σ' H → OkS T su φ m H (f δ') D W → Q σ' H) : trG T t v σ H Q := by
  cases e : Ev.stTg t d δ with
  | none => rw [e] at h; exact h.elim
  | some δ' =>
    rw [e] at h
    refine ⟨d, δ, m, φ, δ', a.rm, a.rl, q, e, fun σ' rl' off => k δ' σ' (a.next .refl a.rm rl' fun u i hu hi => ?_) h⟩
    rw [off.2 i (hj u i hu hi)]
    exact a.suk u i hu hi
/-- name = value, targets = value -/
theorem rdS_asg {t : Ev.Tg} {e : Ev.E} (hj : ∀ u i, su = some u → u.j = some i → i ∉ slT t) (h : trS T k su W (.asg t e) D σ H) : tAsg (trE T k su W e) (trG T t) D σ H := by
  obtain ⟨cur, δ, m, φ, a, h⟩ := h
  refine ⟨cur, δ, m, φ, a, OkS.of a h fun x m1 φ1 H1 v e1 rm1 q1 h1 => ?_⟩
  have a1 := a.ext e1 rm1
  exact rd_store (f := fun δ' => .ok (.next δ') m1) a1 q1 hj h1 fun δ' σ' a' h' => h' φ1 H1 σ' .refl a'.rm a'.rl a'.suk
def tPut (T : Tb) : TSet := fun o i v H Q => ∃ x y z m φ m', RM T φ m H ∧ RD T φ m.length H x o ∧ RD T φ m.length H y i ∧ RD T φ m.length H z v ∧ Ev.putV x y z m = some m' ∧ ∀ φ' H', Ext φ m.length H φ' m'.length H' → RM T φ' m' H' → Q H'
theorem rdS_put {p i e : Ev.E} (h : trS T k su W (.put p i e) D σ H) : tAsg (trE T k su W e) (gSub (trE T k su W p) (trE T k su W i) (tPut T)) D σ H := by
  obtain ⟨cur, δ, m, φ, a, h⟩ := h
  refine ⟨cur, δ, m, φ, a, OkS.of a h fun z m1 φ1 H1 v e1 rm1 q1 h1 => ?_⟩
  have a1 := a.ext e1 rm1
  refine ⟨cur, δ, m1, φ1, a1, OkS.of a1 h1 fun x m2 φ2 H2 o e2 rm2 q2 h2 => ?_⟩
  have a2 := a1.ext e2 rm2
  refine ⟨cur, δ, m2, φ2, a2, OkS.of a2 h2 fun y m3 φ3 H3 w e3 rm3 q3 h3 => ?_⟩
  have a3 := a2.ext e3 rm3
  split at h3
  · rename_i m4 ep
    exact ⟨x, y, z, m3, φ3, m4, rm3, q2.ext rm2 e3, q3, q1.ext rm1 (e2.trans e3), ep, fun φ' H' e4 rm4 => h3 φ' H' σ e4 rm4 (a3.rl.ext rm3 e4) a.suk⟩
  · exact h3.elim
def nFld : Option Str → Nat
  | none => 0
  | some _ => 1
def wErr (W : WX) (C : Addr) (f : Option Str) (σ : L2.St) (vs : List V) (H1 : Hp) : Prop := match f with
  | none => vs = [] ∧ W (.ref C) none σ H1
  | some f => ∃ v, vs = [v] ∧ ∀ d, H1 d = none → W (.ref C) (some d) σ (upd H1 d (.xd [(f, v)]))
/-- raise C(..) -/
theorem rdS_rais {c : Nat} {es : List Ev.E} {f : Option Str} (hf : f = (T.pr.fld c).map T.fnm) (hl : es.length = nFld f) (h : trS T k su W (.rais c es) D σ H) :
    trA T k su W es σ H fun vs H1 => wErr W (T.ca c) f σ vs H1 := by
  obtain ⟨cur, δ, m, φ, a, h⟩ := h
  have h : OkS T su φ m H (RS.of (Ev.evEs (cfg T k) cur δ es m) δ fun xs m1 => .exc c xs δ m1) D W := h
  refine ⟨cur, δ, m, φ, a, ?_⟩
  show OkDs T φ m H (Ev.evEs (cfg T k) cur δ es m) _ _
  cases ee : Ev.evEs (cfg T k) cur δ es m with
  | exc c fs m1 => rw [ee] at h; exact fun φ1 H1 dx e1 rm1 q => h φ1 H1 dx σ e1 rm1 (a.rl.ext a.rm e1) q
  | stuck => rw [ee] at h; exact h
  | ok xs m1 =>
    rw [ee] at h
    intro φ1 H1 vs e1 rm1 q1
    have hx := evEs_len ee
    have h : ∀ φ' H' dx σ', Ext φ m.length H φ' m1.length H' → RM T φ' m1 H' → RL T φ' m1.length H' δ σ' → XD T c φ' m1.length H' xs dx → W (.ref (T.ca c)) dx σ' H' := h
    cases ef : T.pr.fld c with
    | none =>
      rw [ef] at hf
      subst hf
      simp only [Option.map_none, nFld] at hl
      have e0 : xs = [] := List.length_eq_zero_iff.mp (by omega)
      subst e0
      cases q1
      refine ⟨rfl, h φ1 H1 none σ e1 rm1 (a.rl.ext a.rm e1) ?_⟩
      unfold XD
      rw [ef]
    | some i =>
      rw [ef] at hf
      subst hf
      simp only [Option.map_some, nFld] at hl
      obtain ⟨d, rfl⟩ := List.length_eq_one_iff.mp (hx.trans hl)
      obtain ⟨v, rfl, q⟩ := RDs.one_inv q1
      refine ⟨v, rfl, fun dd hd => ?_⟩
      have x2 := ext_new (φ := φ1) (n := m1.length) (o := HO.xd [(T.fnm i, v)]) hd
      have rm2 := rm1.new (o := HO.xd [(T.fnm i, v)]) hd
      refine h φ1 _ (some dd) σ (e1.trans x2) rm2 (a.rl.ext a.rm (e1.trans x2)) ?_
      unfold XD
      rw [ef]
      exact ⟨d, dd, v, rfl, rfl, upd_same, q.ext rm1 x2⟩
/-- while -/
theorem rdS_wh {e : Ev.E} {b : List Ev.S} (h : trS T k su W (.wh e b) D σ H) : tWhile (trT T k su W e) (trSs T k su W b) D σ H := by
  obtain ⟨cur, δ, m, φ, a, h⟩ := h
  have h : OkS T su φ m H (Ev.whN (fun δ m => Ev.evT (cfg T k) cur δ e m) (fun δ m => Ev.evSs (cfg T k) cur b δ m) Ev.whFuel δ m) D W := h
  generalize Ev.whFuel = n at h
  refine ⟨fun n σ H => ∃ δ m φ, At T su cur δ m φ σ H ∧ OkS T su φ m H (Ev.whN (fun δ m => Ev.evT (cfg T k) cur δ e m) (fun δ m => Ev.evSs (cfg T k) cur b δ m) n δ m) D W, ⟨n, δ, m, φ, a, h⟩, ?_⟩
  rintro n σ H ⟨δ, m, φ, a, h⟩
  cases n with
  | zero => exact h.elim
  | succ n =>
    refine ⟨cur, δ, m, φ, a, OkS.of a h fun t m1 φ1 H1 t' e1 rm1 q1 h1 => ?_⟩
    cases q1
    have a1 := a.ext e1 rm1
    cases t with
    | false =>
      simp only [Bool.false_eq_true, if_false]
      exact h1 φ1 H1 σ .refl rm1 a1.rl a1.suk
    | true =>
      simp only [if_true]
      refine ⟨fun σ H => ∃ δ m φ, At T su cur δ m φ σ H ∧ OkS T su φ m H (Ev.whN (fun δ m => Ev.evT (cfg T k) cur δ e m) (fun δ m => Ev.evSs (cfg T k) cur b δ m) n δ m) D W, fun σ' H' q => ⟨n, Nat.lt_succ_self n, q⟩, ?_⟩
      exact ⟨cur, δ, m1, φ1, a1, OkS.turn h1 fun δ' m' φ' H' σ' e2 rm2 rl2 s2 h2 => ⟨δ', m', φ', a1.next e2 rm2 rl2 s2, h2⟩⟩
/-- for -/
theorem rdS_for {t : Ev.Tg} {it : Ev.It} {b : List Ev.S} (hj : ∀ u i, su = some u → u.j = some i → i ∉ slT t) (h : trS T k su W (.for t it b) D σ H) : tFor (trI T k su W it) (trG T t) (trSs T k su W b) D σ H := by
  obtain ⟨cur, δ, m, φ, a, h⟩ := h
  refine ⟨cur, δ, m, φ, a, OkS.of a h fun w m1 φ1 H1 J e1 rm1 jw h1 => ?_⟩
  have a1 := a.ext e1 rm1
  cases w with
  | con xs =>
    have h1 : OkS T su φ1 m1 H1 (Ev.forC (fun d δ m => Ev.stThen (Ev.stTg t d δ) .stuck fun δ' => Ev.evSs (cfg T k) cur b δ' m) xs δ m1) D W := h1
    refine ⟨fun i n σ H => n = xs.length - i ∧ i ≤ xs.length ∧ ∃ δ m φ, At T su cur δ m φ σ H ∧ Ext φ1 m1.length H1 φ m.length H ∧
      OkS T su φ m H (Ev.forC (fun d δ m => Ev.stThen (Ev.stTg t d δ) .stuck fun δ' => Ev.evSs (cfg T k) cur b δ' m) (xs.drop i) δ m) D W,
      ⟨xs.length, rfl, Nat.zero_le _, δ, m1, φ1, a1, .refl, h1⟩, fun i n σ2 H2 ⟨hn, hi, δ2, m2, φ2, a2, x2, h2⟩ => ?_⟩
    have jw2 := jw φ2 m2 H2 x2 a2.rm
    by_cases hlt : i < xs.length
    · refine .inr ?_
      have ed : xs[i]? = some xs[i] := List.getElem?_eq_getElem hlt
      obtain ⟨go, yl⟩ := jw2.1 i _ ed
      rw [List.drop_eq_getElem_cons hlt] at h2
      refine ⟨go, fun σ H => ∃ δ m φ, At T su cur δ m φ σ H ∧ Ext φ1 m1.length H1 φ m.length H ∧
        OkS T su φ m H (Ev.forC (fun d δ m => Ev.stThen (Ev.stTg t d δ) .stuck fun δ' => Ev.evSs (cfg T k) cur b δ' m) (xs.drop (i + 1)) δ m) D W,
        fun σ' H' hh => ⟨xs.length - (i + 1), by omega, rfl, hlt, hh⟩, fun x H' hy => ?_⟩
      obtain ⟨rfl, q⟩ := yl x H' hy
      have h3 : OkS T su φ2 m2 H' (Ev.turnF (Ev.stThen (Ev.stTg t xs[i] δ2) .stuck fun δ' => Ev.evSs (cfg T k) cur b δ' m2) fun δ' m' => Ev.forC (fun d δ m => Ev.stThen (Ev.stTg t d δ) .stuck fun δ' => Ev.evSs (cfg T k) cur b δ' m) (xs.drop (i + 1)) δ' m') D W := h2
      cases es : Ev.stTg t xs[i] δ2 with
      | none => rw [es] at h3; exact h3.elim
      | some δ3 =>
        rw [es] at h3
        refine rd_store (f := fun δ' => Ev.turnF (Ev.evSs (cfg T k) cur b δ' m2) fun δ' m' => Ev.forC (fun d δ m => Ev.stThen (Ev.stTg t d δ) .stuck fun δ' => Ev.evSs (cfg T k) cur b δ' m) (xs.drop (i + 1)) δ' m') a2 q hj (by rw [es]; exact h3) fun δ' σ' a' h' => ?_
        exact ⟨cur, δ', m2, φ2, a', OkS.turn h' fun δ4 m4 φ4 H4 σ4 e4 rm4 rl4 s4 h4 => ⟨δ4, m4, φ4, a'.next e4 rm4 rl4 s4, x2.trans e4, h4⟩⟩
    · refine .inl ⟨jw2.2 i (by omega), ?_⟩
      rw [List.drop_eq_nil_of_le (by omega)] at h2
      exact h2 φ2 H2 σ2 .refl a2.rm a2.rl a2.suk
  | dyn l =>
    obtain ⟨ha, rfl⟩ := jw
    have h1 : OkS T su φ1 m1 H1 (Ev.forD (fun d δ m => Ev.stThen (Ev.stTg t d δ) .stuck fun δ' => Ev.evSs (cfg T k) cur b δ' m) l (Ev.line + 2) 0 δ m1) D W := h1
    refine ⟨fun i n σ H => ∃ δ m φ, At T su cur δ m φ σ H ∧ Ext φ1 m1.length H1 φ m.length H ∧
      OkS T su φ m H (Ev.forD (fun d δ m => Ev.stThen (Ev.stTg t d δ) .stuck fun δ' => Ev.evSs (cfg T k) cur b δ' m) l n i δ m) D W,
      ⟨Ev.line + 2, δ, m1, φ1, a1, .refl, h1⟩, fun i n σ2 H2 ⟨δ2, m2, φ2, a2, x2, h2⟩ => ?_⟩
    cases n with
    | zero => exact h2.elim
    | succ n =>
      cases en : Ev.nextD l i m2 with
      | none => unfold Ev.forD at h2; rw [en] at h2; exact h2.elim
      | some o =>
        unfold Ev.forD at h2
        rw [en] at h2
        obtain ⟨hl, xs, vs, ev, r, eo⟩ := next_rel a2.rm en
        have ea : φ2 l = φ1 l := x2.same l ha
        rw [ea] at ev
        cases o with
        | none =>
          refine .inl ⟨⟨vs, .of ev, ?_⟩, h2 φ2 H2 σ2 .refl a2.rm a2.rl a2.suk⟩
          rw [r.length]
          exact List.getElem?_eq_none_iff.mp eo.symm
        | some d =>
          obtain ⟨w, ew, q⟩ := r.get eo.symm
          refine .inr ⟨⟨vs, w, .of ev, ew⟩, fun σ H => ∃ δ m φ, At T su cur δ m φ σ H ∧ Ext φ1 m1.length H1 φ m.length H ∧
            OkS T su φ m H (Ev.forD (fun d δ m => Ev.stThen (Ev.stTg t d δ) .stuck fun δ' => Ev.evSs (cfg T k) cur b δ' m) l n (i + 1) δ m) D W,
            fun σ' H' hh => ⟨n, Nat.lt_succ_self n, hh⟩, fun x H' hy => ?_⟩
          obtain ⟨rfl, e2⟩ := hy
          have e3 := e2 vs (.of ev)
          rw [ew] at e3
          cases e3
          have h3 : OkS T su φ2 m2 H' (Ev.turnF (Ev.stThen (Ev.stTg t d δ2) .stuck fun δ' => Ev.evSs (cfg T k) cur b δ' m2) fun δ' m' => Ev.forD (fun d δ m => Ev.stThen (Ev.stTg t d δ) .stuck fun δ' => Ev.evSs (cfg T k) cur b δ' m) l n (i + 1) δ' m') D W := h2
          cases es : Ev.stTg t d δ2 with
          | none => rw [es] at h3; exact h3.elim
          | some δ3 =>
            rw [es] at h3
            refine rd_store (f := fun δ' => Ev.turnF (Ev.evSs (cfg T k) cur b δ' m2) fun δ' m' => Ev.forD (fun d δ m => Ev.stThen (Ev.stTg t d δ) .stuck fun δ' => Ev.evSs (cfg T k) cur b δ' m) l n (i + 1) δ' m') a2 q hj (by rw [es]; exact h3) fun δ' σ' a' h' => ?_
            exact ⟨cur, δ', m2, φ2, a', OkS.turn h' fun δ4 m4 φ4 H4 σ4 e4 rm4 rl4 s4 h4 => ⟨δ4, m4, φ4, a'.next e4 rm4 rl4 s4, x2.trans e4, h4⟩⟩
/-! ### try -/
def clOf (T : Tb) (k : Nat) : List (Nat × Option Nat × List Ev.S) → List EvM.Cl
  | [] => []
  | (h, i, b) :: hs => (.ref (T.ca h), i, fun a cls d => trSs T k (some ⟨a, cls, d, i⟩) WF b) :: clOf T k hs
theorem RL.hide {φ : Nat → Addr} {n : Nat} {H : Hp} {δ : Lc} {σ : L2.St} (h : RL T φ n H δ σ) {i : Nat} {v : Option V} : RL T φ n H (δ.set i none) (σ.set i v) := by
  refine ⟨by simpa using h.1, fun j e hj => ?_⟩
  by_cases hij : i = j
  · subst hij
    by_cases hl : i < δ.length
    · rw [List.getElem?_set_self hl] at hj
      cases hj
    · rw [List.getElem?_eq_none (by simpa using hl)] at hj
      cases hj
  · rw [List.getElem?_set_ne hij] at hj ⊢
    exact h.2 j e hj
theorem wM_ok {c : Nat} {fs : List Ev.D} (hsub : ∀ c h b, T.pr.sub c h = some b → PySem.W.exmOne T.K (.ref (T.ca c)) (.ref (T.ca h)) = some b) (hj : ∀ u, su = some u → u.j = none) : ∀ {hs : List (Nat × Option Nat × List Ev.S)} {φ : Nat → Addr} {m : Mem} {H : Hp} {δ : Lc} {σ : L2.St} {dx : Option Addr},
    RM T φ m H → RL T φ m.length H δ σ → XD T c φ m.length H fs dx → OkS T su φ m H (Ev.evHs (cfg T k) c fs hs δ m) D W → EvM.wM T.K W D (clOf T k hs) (.ref (T.ca c)) dx σ H
  | [], φ, m, H, δ, σ, dx, rm, rl, xd, h => h φ H dx σ .refl rm rl xd
  | (hh, i, b) :: hs, φ, m, H, δ, σ, dx, rm, rl, xd, h => by
    have hS : ∀ σ, SuK su σ := fun σ u i hu hi => by rw [hj u hu] at hi; cases hi
    have h' : OkS T su φ m H (match T.pr.sub c hh with
      | some true => (match Ev.okSl i δ with
        | true => Ev.endH i (Ev.evSs (cfg T k) (some (c, fs)) b (Ev.unset i δ) m)
        | false => .stuck)
      | some false => Ev.evHs (cfg T k) c fs hs δ m
      | none => .stuck) D W := h
    clear h
    cases es : T.pr.sub c hh with
    | none => rw [es] at h'; exact h'.elim
    | some t =>
      rw [es] at h'
      refine ⟨t, hsub c hh t es, fun ht a na => ?_, fun ht => ?_⟩
      · subst ht
        simp only at h'
        cases eo : Ev.okSl i δ with
        | false => rw [eo] at h'; exact h'.elim
        | true =>
          rw [eo] at h'
          simp only at h'
          have rl2 : RL T φ m.length H (Ev.unset i δ) (EvM.inTo i a σ) := by
            cases i with
            | none => exact rl
            | some i => exact RL.hide rl
          have cu : CurR T (some ⟨a, .ref (T.ca c), dx, i⟩) (some (c, fs)) φ m.length H (EvM.inTo i a σ) := by
            refine ⟨c, fs, rfl, rfl, xd, fun j hj' => ?_⟩
            cases i with
            | none => cases hj'
            | some i0 =>
              have hl : i0 < δ.length := of_decide_eq_true eo
              have e0 : i0 = j := Option.some.inj hj'
              rw [← e0]
              exact List.getElem?_set_self (by rw [← rl.1]; exact hl)
          refine ⟨some (c, fs), Ev.unset i δ, m, φ, ⟨rm, rl2, cu⟩, ?_⟩
          show OkS T _ φ m H (Ev.evSs (cfg T k) (some (c, fs)) b (Ev.unset i δ) m) (EvM.outOf i D) WF
          cases er : Ev.evSs (cfg T k) (some (c, fs)) b (Ev.unset i δ) m with
          | exc c2 fs2 δ2 m2 => rw [er] at h'; exact h'.elim
          | stuck => rw [er] at h'; exact h'.elim
          | ok o m2 =>
            rw [er] at h'
            cases i with
            | none => cases o with
              | next δ' => exact fun φ1 H1 σ1 e rm rl s => h' φ1 H1 σ1 e rm rl (hS _)
              | ret d => exact h'
              | brk δ' => exact fun φ1 H1 σ1 e rm rl s => h' φ1 H1 σ1 e rm rl (hS _)
              | cont δ' => exact fun φ1 H1 σ1 e rm rl s => h' φ1 H1 σ1 e rm rl (hS _)
            | some i => cases o with
              | next δ' => exact fun φ1 H1 σ1 e rm rl s => h' φ1 H1 (σ1.set i none) e rm (RL.unset rl) (hS _)
              | ret d => exact h'
              | brk δ' => exact fun φ1 H1 σ1 e rm rl s => h' φ1 H1 (σ1.set i none) e rm (RL.unset rl) (hS _)
              | cont δ' => exact fun φ1 H1 σ1 e rm rl s => h' φ1 H1 (σ1.set i none) e rm (RL.unset rl) (hS _)
      · subst ht
        exact wM_ok hsub hj rm rl xd h'
theorem rdS_tr {b : List Ev.S} {hs : List (Nat × Option Nat × List Ev.S)} (hsub : ∀ c h b, T.pr.sub c h = some b → PySem.W.exmOne T.K (.ref (T.ca c)) (.ref (T.ca h)) = some b) (hj : ∀ u, su = some u → u.j = none)
    (h : trS T k su W (.tr b hs) D σ H) : trSs T k none (EvM.wM T.K W D (clOf T k hs)) b D σ H := by
  obtain ⟨cur, δ, m, φ, a, h⟩ := h
  have hS : ∀ σ, SuK su σ := fun σ u i hu hi => by rw [hj u hu] at hi; cases hi
  refine ⟨cur, δ, m, φ, ⟨a.rm, a.rl, trivial⟩, ?_⟩
  have h' : OkS T su φ m H (match Ev.evSs (cfg T k) cur b δ m with
    | .exc c fs δ' m' => Ev.evHs (cfg T k) c fs hs δ' m'
    | r => r) D W := h
  clear h
  show OkS T none φ m H (Ev.evSs (cfg T k) cur b δ m) D _
  cases er : Ev.evSs (cfg T k) cur b δ m with
  | stuck => rw [er] at h'; exact h'.elim
  | ok o m2 =>
    rw [er] at h'
    cases o with
    | next δ' => exact fun φ1 H1 σ1 e rm rl s => h' φ1 H1 σ1 e rm rl (hS _)
    | ret d => exact h'
    | brk δ' => exact fun φ1 H1 σ1 e rm rl s => h' φ1 H1 σ1 e rm rl (hS _)
    | cont δ' => exact fun φ1 H1 σ1 e rm rl s => h' φ1 H1 σ1 e rm rl (hS _)
  | exc c fs δ2 m2 =>
    rw [er] at h'
    intro φ1 H1 dx σ1 e1 rm1 rl1 xd
    exact wM_ok hsub hj rm1 rl1 xd (OkS.rebase (m' := m2) h' e1)
/-! ### a, b = x, y stored at once -/
theorem of_bind {α β : Type} (r : Rs α) (f : α → Mem → Rs β) (δ : Lc) (g : β → Mem → RS) : RS.of (r.bind f) δ g = RS.of r δ fun a m => RS.of (f a m) δ g := by cases r <;> rfl
theorem rdS_args {es : List Ev.E} {cur : Cur} {δ : Lc} {m : Mem} {φ : Nat → Addr} {f : List Ev.D → Mem → RS} {Q1 : List V → Hp → Prop} (a : At T su cur δ m φ σ H) (h : OkS T su φ m H (RS.of (Ev.evEs (cfg T k) cur δ es m) δ f) D W)
    (q : ∀ xs m' φ' H' vs, xs.length = es.length → Ext φ m.length H φ' m'.length H' → At T su cur δ m' φ' σ H' → RDs T φ' m'.length H' xs vs → OkS T su φ' m' H' (f xs m') D W → Q1 vs H') : trA T k su W es σ H Q1 := by
  refine ⟨cur, δ, m, φ, a, ?_⟩
  show OkDs T φ m H (Ev.evEs (cfg T k) cur δ es m) Q1 (WE W σ)
  cases e : Ev.evEs (cfg T k) cur δ es m with
  | ok xs m1 =>
    rw [e] at h
    intro φ1 H1 vs e1 rm1 q1
    exact q xs m1 φ1 H1 vs (evEs_len e) e1 (a.ext e1 rm1) q1 (OkS.rebase (m' := m1) h e1)
  | exc c fs m1 => rw [e] at h; exact fun φ1 H1 dx e1 rm1 q => h φ1 H1 dx σ e1 rm1 (a.rl.ext a.rm e1) q
  | stuck => rw [e] at h; exact h
theorem rdS_par {i j : Nat} {x y : Ev.E} (hj : ∀ u l, su = some u → u.j = some l → l ≠ i ∧ l ≠ j) (h : trS T k su W (.asg (.tup [.nm i, .nm j]) (.tup [x, y])) D σ H) : tPar i j (trA T k su W [x, y]) D σ H := by
  obtain ⟨cur, δ, m, φ, a, h⟩ := h
  have h : OkS T su φ m H (RS.of ((Ev.evEs (cfg T k) cur δ [x, y] m).bind fun xs m1 => .ok (.tup xs) m1) δ fun x m1 => Ev.stThen (Ev.stTg (.tup [.nm i, .nm j]) x δ) .stuck fun δ' => .ok (.next δ') m1) D W := h
  rw [of_bind] at h
  refine rdS_args a h fun xs m1 φ1 H1 vs hl e1 a1 r h1 => ?_
  obtain ⟨d, d2, rfl⟩ : ∃ d d2, xs = [d, d2] := by
    cases xs with
    | nil => simp at hl
    | cons d xs => cases xs with
      | nil => simp at hl
      | cons d2 xs => cases xs with
        | nil => exact ⟨d, d2, rfl⟩
        | cons => simp at hl
  obtain ⟨v, w, rfl, q1, q2⟩ := RDs.two_inv r
  refine ⟨v, w, rfl, ?_⟩
  have h1 : OkS T su φ1 m1 H1 (Ev.stThen (Ev.stTgs [.nm i, .nm j] [d, d2] δ) .stuck fun δ' => .ok (.next δ') m1) D W := h1
  unfold Ev.stTgs Ev.stTgs Ev.stTgs Ev.stTg at h1
  split at h1
  · rename_i δ1 e3
    split at e3
    · cases e3
      split at h1
      · rename_i δ2 e4
        split at e4
        · cases e4
          refine h1 φ1 H1 _ .refl a1.rm (RL.set (RL.set a1.rl q1) q2) fun u l hu hl => ?_
          obtain ⟨n1, n2⟩ := hj u l hu hl
          rw [List.getElem?_set_ne (Ne.symm n2), List.getElem?_set_ne (Ne.symm n1)]
          exact a1.suk u l hu hl
        · cases e4
      · exact h1.elim
    · cases e3
  · exact h1.elim
theorem rdS_par3 {i j l : Nat} {x y z : Ev.E} (hj : ∀ u n, su = some u → u.j = some n → n ≠ i ∧ n ≠ j ∧ n ≠ l) (h : trS T k su W (.asg (.tup [.nm i, .nm j, .nm l]) (.tup [x, y, z])) D σ H) : tPar3 i j l (trA T k su W [x, y, z]) D σ H := by
  obtain ⟨cur, δ, m, φ, a, h⟩ := h
  have h : OkS T su φ m H (RS.of ((Ev.evEs (cfg T k) cur δ [x, y, z] m).bind fun xs m1 => .ok (.tup xs) m1) δ fun x m1 => Ev.stThen (Ev.stTg (.tup [.nm i, .nm j, .nm l]) x δ) .stuck fun δ' => .ok (.next δ') m1) D W := h
  rw [of_bind] at h
  refine rdS_args a h fun xs m1 φ1 H1 vs hl e1 a1 r h1 => ?_
  obtain ⟨d, d2, d3, rfl⟩ : ∃ d d2 d3, xs = [d, d2, d3] := by
    cases xs with
    | nil => simp at hl
    | cons d xs => cases xs with
      | nil => simp at hl
      | cons d2 xs => cases xs with
        | nil => simp at hl
        | cons d3 xs => cases xs with
          | nil => exact ⟨d, d2, d3, rfl⟩
          | cons => simp at hl
  obtain ⟨v, r', rfl, q1, r2⟩ := r
  obtain ⟨w, u, rfl, q2, q3⟩ := RDs.two_inv r2
  refine ⟨v, w, u, rfl, ?_⟩
  have h1 : OkS T su φ1 m1 H1 (Ev.stThen (Ev.stTgs [.nm i, .nm j, .nm l] [d, d2, d3] δ) .stuck fun δ' => .ok (.next δ') m1) D W := h1
  unfold Ev.stTgs Ev.stTgs Ev.stTgs Ev.stTgs Ev.stTg at h1
  split at h1
  · rename_i δ1 e3
    split at e3
    · cases e3
      split at h1
      · rename_i δ2 e4
        split at e4
        · cases e4
          split at h1
          · rename_i δ3 e5
            split at e5
            · cases e5
              refine h1 φ1 H1 _ .refl a1.rm (RL.set (RL.set (RL.set a1.rl q1) q2) q3) fun u l hu hl => ?_
              obtain ⟨n1, n2, n3⟩ := hj u l hu hl
              rw [List.getElem?_set_ne (Ne.symm n3), List.getElem?_set_ne (Ne.symm n2), List.getElem?_set_ne (Ne.symm n1)]
              exact a1.suk u l hu hl
            · cases e5
          · exact h1.elim
        · cases e4
      · exact h1.elim
    · cases e3
  · exact h1.elim
end
end EvB
set_option linter.all false
set_option maxRecDepth 100000
set_option maxHeartbeats 4000000
/-! EvB11: statements: the text read into the evaluator's language, and that it does the same. -/
namespace EvB
open PySem PySem.Spec PyProof.Rows L2 EvM
open Ev (D Ob Mem Rs RS Lc Ky Cur)

def blkK (sc : Scope) : ScopeKind := if sc.kind.isAnnotationScope then .function else sc.kind
/-- the stores from the right, as the model tells them (none: it does not say) -/
def swV (sc : Scope) (ts vs : List Expr) : Option (Option (List Str)) :=
    if (!(ts.length == 2 || ts.length == 3) || vs.length != ts.length || blkK sc != .function) = true then some none else
    if (vs.any fun | .Starred .. => true | _ => false) = true then some none else
    let line := (ts.head?.map (·.pos.line)).getD 0
    let names := ts.filterMap fun
      | .Name id pos => if (sc.names.lookup id == some .local && pos.line == line) = true then some id else none
      | _ => none
    if (names.length != ts.length || names.eraseDups.length != names.length) = true then some none else
    if vs.all (foldedForSure 8) = true then some none else
    if vs.all (constantsAlone 8) = true then none else
    some (some names)
theorem swV_ok {env : Env} {ts vs : List Expr} {j j2 : Nat} {p p2 : Pos} {r : Option (List Str)} (h : swV env.scope ts vs = some r) : swappedStores [.Tuple ts j p] (.Tuple vs j2 p2) env = pure r := by
  unfold swV at h
  unfold swappedStores
  simp only at h ⊢
  split at h
  · rename_i h1
    cases h
    rw [if_pos (by exact h1)]
  · rename_i h1
    rw [if_neg (by exact h1)]
    split at h
    · rename_i h2
      cases h
      rw [if_pos (by exact h2)]
    · rename_i h2
      rw [if_neg (by exact h2)]
      split at h
      · rename_i h3
        cases h
        rw [if_pos (by exact h3)]
      · rename_i h3
        rw [if_neg (by exact h3)]
        split at h
        · rename_i h4
          cases h
          rw [if_pos (by exact h4)]
        · rename_i h4
          rw [if_neg (by exact h4)]
          split at h
          · cases h
          · rename_i h5
            cases h
            rw [if_neg (by exact h5)]
            rfl
def isTup : Expr → Bool
  | .Tuple .. => true
  | _ => false
theorem swV_no1 {env : Env} {ts : List Expr} {j : Nat} {p : Pos} {e : Expr} (h : isTup e = false) : swappedStores [.Tuple ts j p] e env = pure none := by
  cases e <;> first | rfl | cases h
theorem swV_no2 {env : Env} {o i : Expr} {p : Pos} {e : Expr} : swappedStores [.Subscript o i p] e env = pure none := rfl
/-- no comprehension's value -/
def noComp : Expr → Bool
  | .ListComp .. => false
  | .SetComp .. => false
  | .DictComp .. => false
  | _ => true
theorem swaps_no {e : Expr} {t : Option Expr} {l : Nat} {env : Env} (h : noComp e = true) : swapsWith e t l env = pure false := by
  cases e <;> first | rfl | cases h
def swLc (sc scope : Scope) (t : Str) (line vline : Nat) : Bool := blkK sc == .function && sc.names.lookup t == some .local && line == vline && !(scope.names.any fun (n, k) => n == t && (k == .local || k == .cell))
theorem swaps_lc {elt : Expr} {gs : List Comprehension} {scope : Scope} {pos py : Pos} {t : Str} {l : Nat} {env : Env} : swapsWith (.ListComp elt gs scope pos) (some (.Name t py)) l env = pure (swLc env.scope scope t py.line pos.line) := rfl

/-! ### the reading of a text -/
abbrev CSt := Cc → Stmt → Option Ev.S
/-- a local name's slot, to store -/
def cLoc (c : Cc) (x : Str) : Option Nat := if okName x = true ∧ c.sc.names.lookup x = some .local then (match ixS c.N x with
  | some i => if c.hv = some i then none else some i
  | none => none) else none
def cTupAsg (ce : CE) (c : Cc) (tg : Expr) (ts : List Expr) (e : Expr) (vs : List Expr) : Option Ev.S := match swV c.sc ts vs with
  | none => none
  | some none => (match cG 8 c tg, ce c e with
    | some t, some x => some (.asg t x)
    | _, _ => none)
  | some (some names) => if c.calm = true ∧ vs.all bare1 = true then (match ts, vs with
      | [.Name x _, .Name y _], [a, b] => if names = [x, y] then (match cLoc c x, cLoc c y, ce c a, ce c b with
          | some i, some j, some p, some q => if i ≠ j then some (.asg (.tup [.nm i, .nm j]) (.tup [p, q])) else none
          | _, _, _, _ => none) else none
      | [.Name x _, .Name y _, .Name z _], [a, b, d] => if names = [x, y, z] then (match cLoc c x, cLoc c y, cLoc c z, Ev.mapO (ce c) [a, b, d] with
          | some i, some j, some l, some [p, q, r] => if i ≠ j ∧ i ≠ l ∧ j ≠ l then some (.asg (.tup [.nm i, .nm j, .nm l]) (.tup [p, q, r])) else none
          | _, _, _, _ => none) else none
      | _, _ => none) else none
def notSl : Expr → Bool
  | .Slice .. => false
  | _ => true
def cAsg (ce : CE) (c : Cc) (tg e : Expr) : Option Ev.S := match tg with
  | .Name y _ => (match cSlot c y, ce c e with
    | some i, some x => some (.asg (.nm i) x)
    | _, _ => none)
  | .Tuple ts _ _ => (match e with
    | .Tuple vs _ _ => cTupAsg ce c tg ts e vs
    | e => if noComp e = true then (match cG 8 c tg, ce c e with
      | some t, some x => some (.asg t x)
      | _, _ => none) else none)
  | .Subscript o i _ => if noComp e = true ∧ notSl i = true then (match ce c o, ce c i, ce c e with
      | some p, some q, some x => some (.put p q x)
      | _, _, _ => none) else none
  | _ => none
def nOf : Option Nat → Nat
  | none => 0
  | some _ => 1
def cRais (G : Gs) (ce : CE) (c : Cc) (e : Expr) : Option Ev.S := match e with
  | .Call (.Name x _) es [] _ => if isGl c x = true ∧ c.calm = true ∧ es.all bare1 = true then (match G.clN.lookup x with
      | some i => (match G.pf[i]?, Ev.mapO (ce c) es with
        | some r, some xs => if es.length = nOf r then some (.rais i xs) else none
        | _, _ => none)
      | none => none) else none
  | _ => none
def cNm (c : Cc) (nm : Option Str) : Option (Option Nat) := match nm with
  | none => some none
  | some n => (cLoc c n).map some
def cHd (G : Gs) (cs : CSt) (c : Cc) (h : ExceptHandler) : Option (Nat × Option Nat × List Ev.S) := match h with
  | .ExceptHandler (some (.Name x _)) nm (b₀ :: body) _ => if isGl c x = true then (match G.clN.lookup x, cNm c nm with
      | some i, some j => (Ev.mapO (cs ⟨c.sc, c.N, false, j, c.cw⟩) (b₀ :: body)).map fun ss => (i, j, ss)
      | _, _ => none) else none
  | _ => none
def cStmt (G : Gs) (ce : CE) (cs : CSt) (c : Cc) (s : Stmt) : Option Ev.S := match s with
  | .Return (some e) _ => (ce c e).map .ret
  | .Return none _ => some .retN
  | .Pass _ => some .pass
  | .Break _ => some .brk
  | .Continue _ => some .cont
  | .Expr e _ => if noComp e = true then (ce c e).map .ex else none
  | .If t a b _ => (match ce c t, Ev.mapO (cs c) a, Ev.mapO (cs c) b with
    | some x, some p, some q => some (.ife x p q)
    | _, _, _ => none)
  | .While t b [] _ => (match ce c t, Ev.mapO (cs c) b with
    | some x, some p => some (.wh x p)
    | _, _ => none)
  | .For tg it b [] _ => (match cIt ce c it, cG 8 c tg, Ev.mapO (cs c) b with
    | some x, some t, some p => some (.for t x p)
    | _, _, _ => none)
  | .Assign [tg] e _ => cAsg ce c tg e
  | .Raise (some e) none _ => cRais G ce c e
  | .Try b (h₀ :: hs) [] [] _ => if c.hv = none then (match Ev.mapO (cs c) b, Ev.mapO (cHd G cs c) (h₀ :: hs) with
      | some p, some q => some (.tr p q)
      | _, _ => none) else none
  | _ => none
def cS (G : Gs) (ce : CE) : Nat → CSt
  | 0 => fun _ _ => none
  | n + 1 => cStmt G ce (cS G ce n)

/-! ### it does the same -/
structure XS (T : Tb) (G : Gs) (c : Cc) (k : Nat) (X : Cx) (W : WX) (su : Option SuR) : Prop extends XT T G c k X W su where
  pass : PassesOwn (model X.prog X.w) X.A X.env X.xe
  stk : X.stack = X.env :: X.outer
  frm : X.env.frame = some X.env.locals
def CSok (T : Tb) (G : Gs) (k : Nat) (cs : CSt) : Prop := ∀ c s x, cs c s = some x → ∀ X W su, XS T G c k X W su → PS X s (trS T k su W x)
section
variable {T : Tb} {G : Gs} {k : Nat} {ce : CE} {cs : CSt} {c : Cc} {X : Cx} {W : WX} {su : Option SuR}
theorem pss_cs (H : CSok T G k cs) (x : XS T G c k X W su) : ∀ {b : List Stmt} {p : List Ev.S}, Ev.mapO (cs c) b = some p → PSs X b (trSs T k su W p)
  | [], p, h => by cases h; exact PSs.wk pss_nil fun D σ H q => rdS_nil q
  | s :: b, p, h => by
    unfold Ev.mapO at h
    cases e1 : cs c s with
    | none => rw [e1] at h; cases h
    | some y =>
      rw [e1] at h
      cases e2 : Ev.mapO (cs c) b with
      | none => rw [e2] at h; cases h
      | some r =>
        rw [e2] at h
        cases h
        exact PSs.wk (pss_cons (H c s y e1 X W su x) (pss_cs H x e2)) fun D σ H q => rdS_cons q
theorem su_slot (x : XT T G c k X W su) {u : SuR} {i : Nat} (hu : su = some u) (hi : u.j = some i) : c.hv = some i := by
  rw [x.hv, hu]
  exact hi
theorem cG_slots : ∀ (n : Nat) {e : Expr} {t : Ev.Tg}, cG n c e = some t → ∀ i, c.hv = some i → i ∉ slT t
  | 0, _, _, h => by cases h
  | n + 1, e, t, h => by
    intro i hi
    unfold cG at h
    split at h
    · rw [Option.map_eq_some_iff] at h
      obtain ⟨j, hj, rfl⟩ := h
      intro hm
      unfold slT at hm
      rw [List.mem_singleton] at hm
      subst hm
      unfold cSlot at hj
      split at hj
      · split at hj
        · split at hj
          · cases hj
          · rename_i hne
            cases hj
            exact hne hi
        · cases hj
      · cases hj
    · rename_i es _ _
      split at h
      · rw [Option.map_eq_some_iff] at h
        obtain ⟨ts, h1, rfl⟩ := h
        have all : ∀ {es : List Expr} {ts : List Ev.Tg}, Ev.mapO (cG n c) es = some ts → i ∉ slTs ts := by
          intro es
          induction es with
          | nil => intro ts h; cases h; unfold slTs; simp
          | cons e es ih =>
            intro ts h
            unfold Ev.mapO at h
            cases e1 : cG n c e with
            | none => rw [e1] at h; cases h
            | some t =>
              rw [e1] at h
              cases e2 : Ev.mapO (cG n c) es with
              | none => rw [e2] at h; cases h
              | some r =>
                rw [e2] at h
                cases h
                unfold slTs
                rw [List.mem_append, not_or]
                exact ⟨cG_slots n e1 i hi, ih e2⟩
        unfold slT
        exact all h1
      · cases h
    · cases h
theorem cLoc_at (x : XT T G c k X W su) {y : Str} {i : Nat} (h : cLoc c y = some i) : X.N[i]? = some y ∧ X.env.scope.names.lookup y = some .local ∧ c.hv ≠ some i := by
  unfold cLoc at h
  split at h
  · rename_i hc
    split at h
    · rename_i j hj
      split at h
      · cases h
      · rename_i hne
        cases h
        exact ⟨by rw [x.N]; exact ixS_get hj, by rw [x.sc]; exact hc.2, hne⟩
    · cases h
  · cases h
end
end EvB
set_option linter.all false
set_option maxRecDepth 100000
set_option maxHeartbeats 4000000
/-! EvB12: statements do the same. -/
namespace EvB
open PySem PySem.Spec PyProof.Rows L2 EvM
open Ev (D Ob Mem Rs RS Lc Ky Cur)
section
variable {T : Tb} {G : Gs} {k : Nat} {ce : CE} {cs : CSt} {c : Cc} {X : Cx} {W : WX} {su : Option SuR}
/-- comprehensions are read as such -/
def LcOk (T : Tb) (G : Gs) (k : Nat) (ce : CE) : Prop := ∀ c elt gs scope p z, ce c (.ListComp elt gs scope p) = some z → ∀ X W su, XT T G c k X W su →
  ∃ tg iter ifs y t it cond, gs = [⟨tg, iter, ifs, 0⟩] ∧ z = .comp ((compOwn c.N scope).map (·.2)) y t it cond ∧ CompOk T k X W su elt tg iter ifs scope (compOwn c.N scope) y t it cond
theorem lcOk_cE : ∀ n, LcOk T G k (cE G n)
  | 0 => fun c elt gs scope p z h => by cases h
  | n + 1 => fun c elt gs scope p z h X W su x => comp_ok (cE_ok n) (noSet_cE n) x h
theorem noDict_cE : ∀ n c (e : Expr) z, cE G n c e = some z → noComp e = true ∨ ∃ elt gs sc p, e = .ListComp elt gs sc p
  | 0, c, e, z, h => by cases h
  | n + 1, c, e, z, h => by
    cases e <;> first | exact .inl rfl | exact .inr ⟨_, _, _, _, rfl⟩ | cases h
def NoDict (ce : CE) : Prop := ∀ c (e : Expr) z, ce c e = some z → noComp e = true ∨ ∃ elt gs sc p, e = .ListComp elt gs sc p
theorem gName_of {t : TE} {i : Nat} {D : Ends} {σ : L2.St} {H : Hp} {r : TE} (h : tAsg r (trG T (.nm i)) D σ H) (hr : r = t) (m : ∀ σ H (Q Q' : VK), r σ H Q → (∀ v H, Q v H → Q' v H) → r σ H Q') : tAsg t (gName i) D σ H := by
  subst hr
  exact m _ _ _ _ h fun v H q => rdG_nm q
theorem rd_mono {e : Ev.E} {σ : L2.St} {H : Hp} {Q Q' : VK} (h : trE T k su W e σ H Q) (q : ∀ v H, Q v H → Q' v H) : trE T k su W e σ H Q' := by
  obtain ⟨cur, δ, m, φ, a, h⟩ := h
  exact ⟨cur, δ, m, φ, a, OkE.imp h fun _ _ _ _ _ _ _ _ z => q _ _ z⟩
theorem tLc_mono {wi : TI} {g : TG} {tt : TT} {te : TE} {vs : List Nat} {σ : L2.St} {H : Hp} {Q Q' : VK} (hw : ∀ σ H (R R' : It → Hp → Prop), wi σ H R → (∀ J H, R J H → R' J H) → wi σ H R') (h : tLc wi g tt te vs σ H Q) (q : ∀ v H, Q v H → Q' v H) : tLc wi g tt te vs σ H Q' := by
  refine hw _ _ _ _ h fun J H1 h1 L hL => ?_
  obtain ⟨W, w0, turn⟩ := h1 L hL
  refine ⟨W, w0, fun i m H w => ?_⟩
  rcases turn i m H w with ⟨s, z⟩ | z
  · exact .inl ⟨s, q _ _ z⟩
  · exact .inr z
theorem su_off (x : XT T G c k X W su) {t : Ev.Tg} (h : ∀ i, c.hv = some i → i ∉ slT t) : ∀ u i, su = some u → u.j = some i → i ∉ slT t := fun u i hu hi => h i (su_slot x hu hi)
theorem nm_off {c : Cc} {i : Nat} (h : c.hv ≠ some i) : ∀ j, c.hv = some j → j ∉ slT (.nm i) := fun j hj hm => by
  unfold slT at hm
  rw [List.mem_singleton] at hm
  subst hm
  exact h hj
theorem ss_name (He : CEok T G k ce) (Hl : LcOk T G k ce) (Hd : NoDict ce) (x : XS T G c k X W su) {y : Str} {i : Nat} {e : Expr} {z : Ev.E} {py pos : Pos} (hi : cSlot c y = some i) (hz : ce c e = some z) :
    PS X (.Assign [.Name y py] e pos) (trS T k su W (.asg (.nm i) z)) := by
  obtain ⟨n1, n2, n4, n3⟩ := cSlot_at x.toXT hi
  have off := su_off x.toXT (nm_off n3)
  have plain : swapsWith e (some (.Name y py)) pos.line X.env = pure false → PS X (.Assign [.Name y py] e pos) (trS T k su W (.asg (.nm i) z)) := fun hs =>
    PS.wk (ps_set x.nd' n1 n2 (He _ _ _ hz _ _ _ x.toXT).pe hs n4) fun D σ H q => rd_mono (rdS_asg off q) fun v H q => rdG_nm q
  rcases Hd _ _ _ hz with hn | ⟨elt, gs, sc, p, rfl⟩
  · exact plain (swaps_no hn)
  · cases hb : swLc X.env.scope sc y py.line p.line with
    | false => exact plain (by rw [swaps_lc, hb])
    | true =>
      have n5 : X.env.scope.names.lookup y = some .local := by
        unfold swLc at hb
        simp only [Bool.and_eq_true, beq_iff_eq] at hb
        exact hb.1.1.2
      obtain ⟨tg, iter, ifs, y2, t, it, cond, rfl, rfl, o⟩ := Hl _ _ _ _ _ _ hz _ _ _ x.toXT
      refine PS.wk (ps_setLcM x.mild x.nd' n1 n5 (by rw [swaps_lc, hb]) o.pi o.blk o.pg o.pt o.pe (fold_ok o.ns)) fun D σ H q => ?_
      have q1 := rdS_asg off q
      refine tLc_mono (fun σ H R R' h q => ?_) (rd_comp o.own q1) fun v H q => rdG_nm q
      obtain ⟨cur, δ, m, φ, a, h⟩ := h
      exact ⟨cur, δ, m, φ, a, OkE.imp h fun _ _ _ _ _ _ _ _ z => q _ _ z⟩
theorem isTup_of {e : Expr} (h : ∀ vs j p, e ≠ .Tuple vs j p) : isTup e = false := by
  cases e <;> first | rfl | exact absurd rfl (h _ _ _)
theorem ss_tup (He : CEok T G k ce) (x : XS T G c k X W su) {ts : List Expr} {j : Nat} {p pos : Pos} {e : Expr} {t : Ev.Tg} {z : Ev.E} (hn : noComp e = true) (ht : cG 8 c (.Tuple ts j p) = some t) (hz : ce c e = some z) (hw : swappedStores [.Tuple ts j p] e X.env = pure none) :
    PS X (.Assign [.Tuple ts j p] e pos) (trS T k su W (.asg t z)) :=
  PS.wk (ps_asg (He _ _ _ hz _ _ _ x.toXT).pe (pg_ok x.toXT 8 ht) (show swapsWith e (some (.Tuple ts j p)) pos.line X.env = pure false from swaps_no hn) hw rfl) fun D σ H q => rdS_asg (su_off x.toXT (cG_slots 8 ht)) q
theorem mapO_two {α β : Type} {f : α → Option β} {a b : α} {p q : β} (h1 : f a = some p) (h2 : f b = some q) : Ev.mapO f [a, b] = some [p, q] := by
  simp [Ev.mapO, h1, h2]
theorem mapO_three {α β : Type} {f : α → Option β} {a b d : α} {ys : List β} (h : Ev.mapO f [a, b, d] = some ys) : ys.length = 3 := by
  have := (mapO_some h).1
  simpa using this.symm
theorem ss_asg (He : CEok T G k ce) (Hl : LcOk T G k ce) (Hd : NoDict ce) (x : XS T G c k X W su) {tg e : Expr} {s : Ev.S} {pos : Pos} (h : cAsg ce c tg e = some s) : PS X (.Assign [tg] e pos) (trS T k su W s) := by
  unfold cAsg at h
  split at h
  · split at h
    · rename_i i z h1 h2
      cases h
      exact ss_name He Hl Hd x h1 h2
    · cases h
  · rename_i ts j p
    split at h
    · rename_i vs j2 p2
      unfold cTupAsg at h
      split at h
      · cases h
      · rename_i hs
        split at h
        · rename_i t z h1 h2
          cases h
          exact ss_tup He x rfl h1 h2 (swV_ok (by rw [x.sc]; exact hs))
        · cases h
      · rename_i names hs
        have hw : swappedStores [.Tuple ts j p] (.Tuple vs j2 p2) X.env = pure (some names) := swV_ok (by rw [x.sc]; exact hs)
        split at h
        · rename_i hc
          split at h
          · rename_i xn px yn py a b
            split at h
            · rename_i hn
              subst hn
              split at h
              · rename_i i j3 e1 e2 h1 h2 h3 h4
                split at h
                · rename_i hij
                  cases h
                  obtain ⟨a1, a2, a3⟩ := cLoc_at x.toXT h1
                  obtain ⟨b1, b2, b3⟩ := cLoc_at x.toXT h2
                  refine PS.wk (ps_par (x.calm hc.1) x.nd' a1 b1 hij a2 b2 (pa_ce He x.toXT (mapO_two h3 h4) hc.2) hw rfl) fun D σ H q => rdS_par (fun u l hu hl => ⟨fun z => a3 ?_, fun z => b3 ?_⟩) q
                  · rw [← z]; exact su_slot x.toXT hu hl
                  · rw [← z]; exact su_slot x.toXT hu hl
                · cases h
              · cases h
            · cases h
          · rename_i xn px yn py zn pz a b d
            split at h
            · rename_i hn
              subst hn
              split at h
              · rename_i i j3 l e1 e2 e3 h1 h2 h3 h4
                split at h
                · rename_i hij
                  cases h
                  obtain ⟨a1, a2, a3⟩ := cLoc_at x.toXT h1
                  obtain ⟨b1, b2, b3⟩ := cLoc_at x.toXT h2
                  obtain ⟨c1, c2, c3⟩ := cLoc_at x.toXT h3
                  refine PS.wk (ps_par3 (x.calm hc.1) x.nd' a1 b1 c1 hij.1 hij.2.1 hij.2.2 a2 b2 c2 (pa_ce He x.toXT h4 hc.2) hw rfl) fun D σ H q => rdS_par3 (fun u l hu hl => ⟨fun z => a3 ?_, fun z => b3 ?_, fun z => c3 ?_⟩) q
                  · rw [← z]; exact su_slot x.toXT hu hl
                  · rw [← z]; exact su_slot x.toXT hu hl
                  · rw [← z]; exact su_slot x.toXT hu hl
                · cases h
              · cases h
            · cases h
          · cases h
        · cases h
    · rename_i hne
      split at h
      · rename_i hn
        split at h
        · rename_i t z h1 h2
          cases h
          exact ss_tup He x hn h1 h2 (swV_no1 (isTup_of fun vs j p z => hne vs j p z))
        · cases h
      · cases h
  · rename_i o i p
    split at h
    · rename_i hc
      split at h
      · rename_i y z u h1 h2 h3
        cases h
        refine PS.wk (ps_asg (He _ _ _ h3 _ _ _ x.toXT).pe (pg_sub (pos := p) (He _ _ _ h1 _ _ _ x.toXT).pe (He _ _ _ h2 _ _ _ x.toXT).pe put_ok ?_) (show swapsWith e (some (.Subscript o i p)) pos.line X.env = pure false from swaps_no hc.1) rfl rfl) fun D σ H q => rdS_put q
        intro v
        cases i <;> first | rfl | cases hc.2
      · cases h
    · cases h
  · cases h
/-! ### raise -/
theorem ps_errW {C : Addr} {fld : Option Str} {n : Str} {e : Expr} {es : List Expr} {t : TA} {W : WX} {p pos pos2 : Pos} (T : ErrC X.prog X.w X.K X.mg X.base C fld) (hc : X.calm = true) (hr : Room 3 X.A) (tk : L2N.Takes X W) (hg : Gl X n) (hm : X.mg n = some (.ref C)) (hdb : (n == ("__debug__" : Str)) = false) (ha : PA X (e :: es) t)
    (hs : (e :: es).all bare1 = true) : PS X (.Raise (some (.Call (.Name n p) (e :: es) [] pos)) none pos2) (fun _ σ H => t σ H fun vs H1 => wErr W C fld σ vs H1) := by
  cases fld with
  | none => exact ps_err T hc hr tk hg hm hdb ha hs
  | some f => exact ps_err T hc hr tk hg hm hdb ha hs
theorem ss_rais (He : CEok T G k ce) (x : XS T G c k X W su) {e : Expr} {s : Ev.S} {pos : Pos} (h : cRais G ce c e = some s) : PS X (.Raise (some e) none pos) (trS T k su W s) := by
  unfold cRais at h
  split at h
  · rename_i n p es p2
    split at h
    · rename_i hc
      obtain ⟨g, ok⟩ := isGl_at x.toXT hc.1
      split at h
      · rename_i i hi
        split at h
        · rename_i r xs h1 h2
          split at h
          · rename_i hl
            cases h
            have m1 := x.gt.cl _ _ hi
            have E0 := x.gt.er _ _ h1
            have hpf := x.gt.pf _ _ h1
            have E : ErrC X.prog X.w X.K X.mg X.base (T.ca i) ((T.pr.fld i).map T.fnm) := by rw [x.prog, x.w, x.K, x.mg]; exact E0
            have hm : X.mg n = some (.ref (T.ca i)) := by rw [x.mg]; exact m1
            have cal := x.calm hc.2.1
            have room : Room 3 X.A := (x.room.calm cal).mono (by omega)
            have len : xs.length = nFld ((T.pr.fld i).map T.fnm) := by
              rw [← (mapO_some h2).1, hl, hpf]
              cases r <;> rfl
            cases es with
            | nil =>
              cases h2
              have hr : r = none := by
                cases r with
                | none => rfl
                | some q => simp [nOf] at hl
              subst hr
              rw [hpf] at E
              refine PS.wk (ps_err0 E cal room x.tk g hm (okName_1 ok)) fun D σ H q => ?_
              have q1 := rdA_nil (rdS_rais (f := (T.pr.fld i).map T.fnm) rfl len q)
              rw [hpf] at q1
              exact q1.2
            | cons e es =>
              exact PS.wk (ps_errW E cal room x.tk g hm (okName_1 ok) (pa_ce He x.toXT h2 hc.2.2) hc.2.2) fun D σ H q => rdS_rais (f := (T.pr.fld i).map T.fnm) rfl len q
          · cases h
        · cases h
      · cases h
    · cases h
  · cases h
/-! ### try -/
theorem xs_tr (x : XS T G c k X W su) (hc : c.hv = none) {W' : WX} {pn : List (Addr × Obj)} {xe : Value → Shared → Prop} (hp : ∀ q ∈ X.pn, q ∈ pn) (tk : L2N.Takes (X.tr pn xe) W') (ps : PassesOwn (model X.prog X.w) X.A X.env xe) : XS T G c k (X.tr pn xe) W' none where
  gt := x.gt
  prog := x.prog
  w := x.w
  K := x.K
  mg := x.mg
  N := x.N
  nd := x.nd
  sc := x.sc
  tk := tk
  mild := x.mild.imp id fun ⟨p, hh, hq⟩ => ⟨p, hh, hp p hq⟩
  calm := x.calm
  room := ⟨x.room.calm, x.room.hot⟩
  hv := hc
  cw := x.cw
  suc := fun u h => by cases h
  pass := ps
  stk := x.stk
  frm := x.frm
theorem xs_su (x : XS T G c k X W su) {j : Option Nat} {a : Addr} {oe : Obj} {cls : Value} {d : Option Addr} {pn : List (Addr × Obj)} (hz : L2N.Zn cls d oe) (hf : ∃ vs, oe.data = .fields vs) : XS T G ⟨c.sc, c.N, false, j, c.cw⟩ k (X.suite a ((a, oe) :: pn)) WF (some ⟨a, cls, d, j⟩) where
  gt := x.gt
  prog := x.prog
  w := x.w
  K := x.K
  mg := x.mg
  N := x.N
  nd := x.nd
  sc := x.sc
  tk := takesF
  mild := mild_suite hz hf
  calm := (fun h => nomatch h)
  room := ⟨(fun h => nomatch h), ⟨x.room.hot.dp, x.room.hot.un⟩⟩
  hv := rfl
  cw := x.cw
  suc := fun u h => by cases h; exact ⟨oe, pn, X, rfl, hz, hf⟩
  pass := PassesOwn.never
  stk := x.stk
  frm := x.frm
theorem hdm_ok (Hs : CSok T G k cs) (x : XS T G c k X W su) : ∀ {hs : List ExceptHandler} {qs : List (Nat × Option Nat × List Ev.S)}, Ev.mapO (cHd G cs c) hs = some qs → HdM X hs (clOf T k qs)
  | [], qs, h => by cases h; exact .nil
  | hd :: hs, qs, h => by
    unfold Ev.mapO at h
    cases e1 : cHd G cs c hd with
    | none => rw [e1] at h; cases h
    | some y =>
      rw [e1] at h
      cases e2 : Ev.mapO (cHd G cs c) hs with
      | none => rw [e2] at h; cases h
      | some r =>
        rw [e2] at h
        cases h
        have ih := hdm_ok Hs x e2
        unfold cHd at e1
        split at e1
        · rename_i n np nm b₀ body pos
          split at e1
          · rename_i hg
            obtain ⟨g, ok⟩ := isGl_at x.toXT hg
            split at e1
            · rename_i i j h1 h2
              rw [Option.map_eq_some_iff] at e1
              obtain ⟨ss, h3, rfl⟩ := e1
              refine HdM.cons (i := j) (c := .ref (T.ca i)) (ts := fun a cls d => trSs T k (some ⟨a, cls, d, j⟩) WF ss) ⟨g, okName_1 ok, .inl (by rw [x.mg]; exact x.gt.cl _ _ h1)⟩ ?_ (fun a oe cls d pn hz hf => pss_cs Hs (xs_su x hz hf) h3) ih
              unfold cNm at h2
              split at h2
              · cases h2; exact .inl ⟨rfl, rfl⟩
              · rename_i n2
                rw [Option.map_eq_some_iff] at h2
                obtain ⟨j2, h4, rfl⟩ := h2
                obtain ⟨a1, a2, a3⟩ := cLoc_at x.toXT h4
                exact .inr ⟨n2, j2, rfl, rfl, a1, a2⟩
            · cases e1
          · cases e1
        · cases e1
/-! ### all statements -/
theorem stmt_ok (He : CEok T G k ce) (Hl : LcOk T G k ce) (Hd : NoDict ce) (hS : NoSet ce) (Hs : CSok T G k cs) : CSok T G k (cStmt G ce cs) := fun c s y h X W su x => by
  unfold cStmt at h
  split at h
  · rw [Option.map_eq_some_iff] at h
    obtain ⟨z, h1, rfl⟩ := h
    exact PS.wk (ps_ret (He _ _ _ h1 _ _ _ x.toXT).pe) fun D σ H q => rdS_ret q
  · cases h; exact PS.wk ps_retN fun D σ H q => rdS_retN q
  · cases h; exact PS.wk ps_pass fun D σ H q => rdS_pass q
  · cases h; exact PS.wk ps_break fun D σ H q => rdS_brk q
  · cases h; exact PS.wk ps_continue fun D σ H q => rdS_cont q
  · split at h
    · rename_i hn
      rw [Option.map_eq_some_iff] at h
      obtain ⟨z, h1, rfl⟩ := h
      exact PS.wk (ps_expr (He _ _ _ h1 _ _ _ x.toXT).pe (swaps_no hn)) fun D σ H q => rdS_ex q
    · cases h
  · split at h
    · rename_i z p q h1 h2 h3
      cases h
      exact PS.wk (ps_if (He _ _ _ h1 _ _ _ x.toXT).pt (pss_cs Hs x h2) (pss_cs Hs x h3)) fun D σ H q => rdS_ife q
    · cases h
  · split at h
    · rename_i z p h1 h2
      cases h
      exact PS.wk (ps_while x.pass (He _ _ _ h1 _ _ _ x.toXT).pt (pss_cs Hs x h2)) fun D σ H q => rdS_wh q
    · cases h
  · split at h
    · rename_i z t p h1 h2 h3
      cases h
      obtain ⟨p1, p2⟩ := pi_ok He hS x.toXT h1
      exact PS.wk (ps_forM x.pass x.mild p1 (pg_ok x.toXT 8 h2) (pss_cs Hs x h3) (fold_ok p2)) fun D σ H q => rdS_for (su_off x.toXT (cG_slots 8 h2)) q
    · cases h
  · exact ss_asg He Hl Hd x h
  · exact ss_rais He x h
  · rename_i b h₀ hs pos
    split at h
    · rename_i hc
      split at h
      · rename_i p q h1 h2
        cases h
        refine PS.wk (ps_tryM (tb := fun W' => trSs T k none W' p) (l := clOf T k q) x.stk x.frm x.nd' x.tk (fun W' pn xe hp tk ps => pss_cs Hs (xs_tr x hc hp tk ps) h1) (hdm_ok Hs x h2)) fun D σ H q => ?_
        rw [x.K]
        refine rdS_tr x.gt.sub (fun u hu => ?_) q
        have := x.hv
        rw [hc, hu] at this
        exact this.symm
      · cases h
    · cases h
  · cases h
theorem cS_ok (He : CEok T G k ce) (Hl : LcOk T G k ce) (Hd : NoDict ce) (hS : NoSet ce) : ∀ n, CSok T G k (cS G ce n)
  | 0 => fun c e x h => by cases h
  | n + 1 => stmt_ok He Hl Hd hS (cS_ok He Hl Hd hS n)
end
end EvB
set_option linter.all false
set_option maxRecDepth 100000
set_option maxHeartbeats 4000000
/-! EvC1: what is looked at of the written part; the Hook. -/
namespace EvC
open PySem PySem.Spec PyProof.Rows L2 EvM EvB
open Ev (D Ob Mem Rs RS Lc Ky Cur)

/-! ### looks -/
def eqF (a b : Option (Option Value)) : Bool := decide (a = b)
def oexB (K : PySem.W.Frag) (C : Addr) : Bool := (match K.lookup C with
  | some ⟨.type "type", _, .cls cd, sl⟩ => (match cd.mro, sl.toList with
    | .ref C' :: bm, [_, _, _, _, some (.builtin n), _] => C' == C && n == "ValueError.__new__" && !cd.hasDel && cd.hasDict && PySem.HandSPX.refsVE bm
    | _, _ => false)
  | _ => false) && eqF (PySem.W.findIn K (.ref C) "__setattr__") (some (some (.builtin "object.__setattr__"))) && decide (PySem.W.subIn K (.ref C) (.type "BaseException") = some true) && decide (PySem.W.typeIn K (.ref C) = some (.type "type")) && PySem.W.keepIn K (.ref C)
theorem oexB_ok {K : PySem.W.Frag} {C : Addr} (h : oexB K C = true) : OexC K C := by
  unfold oexB at h
  simp only [Bool.and_eq_true, decide_eq_true_eq] at h
  obtain ⟨⟨⟨⟨h1, h2⟩, h3⟩, h4⟩, h5⟩ := h
  refine ⟨?_, of_decide_eq_true h2, h3, h4, h5⟩
  split at h1
  · rename_i dd cd sl ho
    split at h1
    · rename_i C' bm k0 k1 k2 k3 n k5 e1 e2
      simp only [Bool.and_eq_true, beq_iff_eq, Bool.not_eq_true'] at h1
      obtain ⟨⟨⟨⟨rfl, rfl⟩, g1⟩, g2⟩, g3⟩ := h1
      obtain ⟨nm, bs, mro, ns, q, hdct, sn, sub, ab, col, hdel⟩ := cd
      simp only at e1 g1 g2
      subst e1 g1 g2
      refine ⟨nm, q, ns, bs, bm, sn, sub, ab, col, dd, k0, k1, k2, k3, k5, ?_, g3⟩
      rw [ho]
      have es : sl = #[k0, k1, k2, k3, some (.builtin "ValueError.__new__"), k5] := by
        rw [← Array.toArray_toList (xs := sl), e2]
      rw [es]
    · cases h1
  · cases h1
def baseB (K : PySem.W.Frag) (C : Addr) : Bool := eqF (PySem.W.specialIn K (.ref C) "__getattribute__") (some (some (.builtin "type.__getattribute__"))) && PySem.W.readsIn K C (.type "type") && (match PySem.W.findCls K (.ref C) (.type "type") "__init__" with
  | some (.val (.builtin n)) => n == "ValueError.__init__"
  | _ => false)
theorem baseB_ok {K : PySem.W.Frag} {C : Addr} (h : baseB K C = true) : BaseC K C := by
  unfold baseB at h
  simp only [Bool.and_eq_true] at h
  obtain ⟨⟨h1, h2⟩, h3⟩ := h
  refine ⟨of_decide_eq_true h1, h2, ?_⟩
  split at h3
  · rename_i n e
    rw [beq_iff_eq] at h3
    subst h3
    exact e
  · cases h3
def scB (N ps : List Str) (sc : Scope) : Bool := (match sc.kind with | .function => true | _ => false) && !sc.isCoroutine && !sc.isGenerator && decide N.Nodup && decide (N.take ps.length = ps) &&
  (ps.all fun x => match sc.names.lookup x with | some .local => true | some .cell => true | _ => false) && (sc.names.all fun y => match y.2 with | .free => false | _ => true)
theorem scB_ok {N ps : List Str} {sc : Scope} (h : scB N ps sc = true) : FnScope N ps sc := by
  unfold scB at h
  simp only [Bool.and_eq_true, decide_eq_true_eq, Bool.not_eq_true', List.all_eq_true] at h
  obtain ⟨⟨⟨⟨⟨⟨h1, h2⟩, h3⟩, h4⟩, h5⟩, h6⟩, h7⟩ := h
  refine ⟨?_, h2, h3, h4, h5, fun x hx => ?_, fun y hy e => ?_⟩
  · split at h1
    · assumption
    · cases h1
  · have q := h6 x hx
    split at q
    · exact .inl (by assumption)
    · exact .inr (by assumption)
    · cases q
  · have q := h7 y hy
    rw [e] at q
    cases q

/-! ### a law's data -/
structure LD where
  fn : List He.FnD
  N : List (List Str)
  hot : List Bool
  cl : List Str
  ini : List He.FnD
  pf : List (Option Nat)
  fdN : List Str
  tab : List (List Bool)
  fns : List Ev.Fd
def idx {α : Type} (l : List α) : List (α × Nat) := l.zip (List.range l.length)
def LD.ps (L : LD) : List (List Str) := L.fn.map fun d => d.params.args.map (·.arg)
def LD.G (L : LD) : Gs := ⟨idx (L.fn.map (·.name)), idx L.cl, L.ps, L.hot, L.fdN, L.pf⟩
def LD.pr (L : LD) : Ev.Prog := ⟨L.fns, fun c h => (L.tab[c]?).bind (·[h]?), fun c => (L.pf[c]?).bind id⟩
def LD.fnm (L : LD) (i : Nat) : Str := L.fdN.getD i Str.empty
/-- the i-th def, read -/
def LD.comp (L : LD) (n : Nat) (i : Nat) : Option (List Ev.S) := match L.fn[i]?, L.N[i]? with
  | some d, some N => Ev.mapO (cS L.G (cE L.G n) n ⟨d.scope, N, !L.hot.getD i false, none, cellsOf d.scope⟩) d.body
  | _, _ => none
/-- what does not hang on the heap -/
def LD.fnB (L : LD) (i : Nat) : Bool := match L.fn[i]?, L.N[i]?, L.fns[i]? with
  | some d, some N, some fd => plainB d.params (d.params.args.map (·.arg)) && scB N (d.params.args.map (·.arg)) d.scope && decide (fd.np = (d.params.args.map (·.arg)).length) && decide (fd.ns = N.length) && (match d.at_ with
    | (x, none) => x == d.name
    | _ => false)
  | _, _, _ => false
def LD.inB (L : LD) (i : Nat) : Bool := match L.ini[i]?, L.cl[i]?, L.pf[i]? with
  | some d, some x, some r => (match inOf d.body with
    | some t => inOk t d.scope && decide (t.fld.map (·.1) = r.map L.fnm) && plainB d.params (inNames t) && scB (inNames t) (inNames t) d.scope && d.name == ("__init__" : Str) && (match d.at_ with
      | (y, some m) => y == x && m == ("__init__" : Str)
      | _ => false)
    | none => false)
  | _, _, _ => false
def LD.stB (L : LD) : Bool := decide (L.fns.length = L.fn.length) && ((List.range L.fn.length).all L.fnB) && ((List.range L.pf.length).all L.inB) && decide (L.cl.Nodup) && decide ((L.fn.map (·.name)).Nodup)
/-- what is looked at of the written part -/
def LD.chk (L : LD) (K : PySem.W.Frag) : Bool :=
  (L.fn.all fun d => (He.Fa.glo d.name).ok K && PySem.W.keepIn K (.ref (He.ga K d.name))) && (bltNames.all fun x => (He.Fa.free x).ok K) && (L.cl.all fun x => (He.Fa.glo x).ok K) &&
  (L.ini.all fun d => match inOf d.body with
    | some t => (He.Fa.glo t.tn).ok K && baseB K (He.ga K t.tn) && oexB K (He.ga K d.at_.1) && xfB K (He.ga K d.at_.1) && (match t.fld with
      | some (f, _) => eqF (PySem.W.findIn K (.ref (He.ga K d.at_.1)) f) (some none)
      | none => true) && eqF (PySem.W.findIn K (.ref (He.ga K d.at_.1)) "__init__") (some (some (.ref (He.fAd K d.at_)))) && decide (PySem.W.typeIn K (.ref (He.fAd K d.at_)) = some (.type "function"))
    | none => false) &&
  ((idx L.tab).all fun r => (idx r.1).all fun b => decide (PySem.W.exmOne K (.ref (He.ga K (L.cl.getD r.2 Str.empty))) (.ref (He.ga K (L.cl.getD b.2 Str.empty))) = some b.1)) &&
  (K.all fun p => match p.2.cls with
    | .type "list" => false
    | _ => true)
/-! ### the Hook -/
def LD.all (L : LD) : List He.FnD := L.fn ++ L.ini
def LD.obs (L : LD) (K : PySem.W.Frag) : He.Al := (L.chk K && L.all.all fun d => (He.Fa.code d.at_ d.qual).ok K, L.all.map fun d => He.fnObs K d.at_)
def LD.val (L : LD) : He.Al := (true, L.all.map He.FnD.val)
def noL (K : PySem.W.Frag) : PySem.W.Frag := K.filter fun p => match p.2.cls with
  | .type "list" => false
  | _ => true
/-- the part: what the module's names reach, and what classes ask -/
def part (n : Nat) (g : Addr → Option Obj) : PySem.W.Frag := He.frG g (PySem.cStatics :: He.asG g n)
theorem part_in {n : Nat} {h : Heap} : (part n h.get?).In h := He.frG_in
def LD.hook (L : LD) (n : Nat) : PySem.W.Hook where
  α := He.Al
  obs := fun s => L.obs (part n s.heap.get?)
  val := fun _ => L.val
  says := fun _ h => ∃ K : PySem.W.Frag, K.In h ∧ L.obs K = L.val
  of := fun _ _ e => ⟨_, part_in, e⟩
  keeps := fun _ _ _ ⟨K, hK, c⟩ k => ⟨K, PySem.W.Frag.In.keeps hK k, c⟩
def LD.ob (L : LD) (n : Nat) (s : PySem.W.SharedT) : He.Al := L.obs (part n (HandSHeadRun.getT s))
end EvC
set_option linter.all false
set_option maxRecDepth 100000
set_option maxHeartbeats 4000000
/-! EvC2: all defs keep the evaluator's promise. -/
namespace EvC
open PySem PySem.Spec PyProof.Rows L2 EvM EvB
open Ev (D Ob Mem Rs RS Lc Ky Cur)

theorem zip_lookup {α : Type} [BEq α] [LawfulBEq α] : ∀ {l : List α} {k : Nat} {x : α} {i : Nat}, (l.zip (List.range' k l.length)).lookup x = some i → ∃ j, i = k + j ∧ l[j]? = some x
  | [], k, x, i, h => by simp at h
  | a :: l, k, x, i, h => by
    rw [List.length_cons, List.range'_succ, List.zip_cons_cons, List.lookup_cons] at h
    split at h
    · rename_i e
      have e2 : x = a := by simpa using e
      cases h
      subst e2
      exact ⟨0, rfl, rfl⟩
    · obtain ⟨j, e1, e2⟩ := zip_lookup h
      exact ⟨j + 1, by omega, by simpa using e2⟩
theorem idx_lookup {α : Type} [BEq α] [LawfulBEq α] {l : List α} {x : α} {i : Nat} (h : (idx l).lookup x = some i) : l[i]? = some x := by
  unfold idx at h
  rw [List.range_eq_range'] at h
  obtain ⟨j, e1, e2⟩ := zip_lookup h
  have e3 : i = j := by omega
  subst e3
  exact e2
theorem idx_mem {α : Type} {l : List α} {i : Nat} {x : α} (h : l[i]? = some x) : (x, i) ∈ idx l := by
  unfold idx
  refine List.mem_iff_getElem?.mpr ⟨i, ?_⟩
  have hl := (List.getElem?_eq_some_iff.mp h).1
  rw [List.getElem?_zip_eq_some]
  exact ⟨h, by rw [List.getElem?_range hl]⟩

def LD.nm (L : LD) (i : Nat) : Str := ((L.fn[i]?).map (·.name)).getD Str.empty
def LD.tb (L : LD) (P : Program) (w : World) (K : PySem.W.Frag) (mg : Str → Option Value) : Tb := ⟨P, w, K, mg, L.pr, fun i => He.ga K (L.nm i), fun i => He.ga K (L.cl.getD i Str.empty), L.fnm⟩

/-- the start of a def's body -/
theorem rl_start {T : Tb} {φ : Nat → Addr} {n : Nat} {H : Hp} {fd : Ev.Fd} {ds : List D} {vs : List V} {N : List Str} (r : RDs T φ n H ds vs) (hn : fd.ns = N.length) : RL T φ n H (Ev.start fd ds) (L2.start N vs) := by
  have hl := r.length
  refine ⟨?_, fun i d e => ?_⟩
  · unfold Ev.start L2.start
    simp [hl, hn]
  · unfold Ev.start at e
    unfold L2.start
    by_cases h : i < ds.length
    · rw [List.getElem?_append_left (by simpa using h), List.getElem?_map] at e
      cases e2 : ds[i]? with
      | none => rw [e2] at e; cases e
      | some d' =>
        rw [e2] at e
        cases e
        obtain ⟨v, ev, q⟩ := r.get e2
        exact ⟨v, by rw [List.getElem?_append_left (by simp; omega), List.getElem?_map, ev]; rfl, q⟩
    · rw [List.getElem?_append_right (by simpa using h)] at e
      rw [List.getElem?_replicate] at e
      split at e <;> cases e
theorem toRet_ok {T : Tb} {φ : Nat → Addr} {m : Mem} {H : Hp} {r : RS} {Q : VK} {E : XK} (h : OkD T φ m H r.toRet Q E) : OkS T none φ m H r { nx := fun _ H' => Q .non H', rt := Q } (fun c d _ H => E c d H) := by
  cases r with
  | ok o m1 => cases o with
    | next δ' => exact fun φ' H' σ' x rm rl s => h φ' H' .non x rm rfl
    | ret d => exact h
    | brk δ' => exact h.elim
    | cont δ' => exact h.elim
  | exc c fs δ' m1 => exact fun φ' H' dx σ' x rm rl xd => h φ' H' dx x rm xd
  | stuck => exact h.elim

section
variable {L : LD} {P : Program} {w : World} {K : PySem.W.Frag} {mg : Str → Option Value} {base h : Heap}
theorem obs_chk (e : L.obs K = L.val) : L.chk K = true := by
  have c := congrArg (fun z : He.Al => z.1) e
  exact (He.ba c).1
theorem obs_def (e : L.obs K = L.val) {j : Nat} {d : He.FnD} (hd : L.all[j]? = some d) :
    ∃ oc od osl kV doc pm an cdv ct, K.lookup (He.fAd K d.at_) = some ⟨oc, od, .func (PySem.W.fnOf d.name d.qual d.params d.body d.scope .none kV doc pm an cdv ct), osl⟩ ∧ PySem.W.codeIn K cdv d.qual = true := by
  have c1 := congrArg (fun z : He.Al => z.1) e
  have c2 := (He.ba c1).2
  have e1 : L.all.map (fun d => He.fnObs K d.at_) = L.all.map He.FnD.val := congrArg (fun z : He.Al => z.2) e
  have e2 : (L.all.map fun d => He.fnObs K d.at_)[j]? = (L.all.map He.FnD.val)[j]? := by rw [e1]
  rw [List.getElem?_map, List.getElem?_map, hd] at e2
  exact He.fn_ok (Option.some.inj e2) (List.all_eq_true.mp c2 d (List.mem_of_getElem? hd))
/-- an error class -/
theorem err_ok (X : K.In h) (Gm : h.Ns mainGlobals mg) (e : L.obs K = L.val) (st : L.stB = true) {i : Nat} {r : Option Nat} (hr : L.pf[i]? = some r) : ErrC P w K mg base (He.ga K (L.cl.getD i Str.empty)) (r.map L.fnm) := by
  have ck := obs_chk e
  unfold LD.chk at ck
  simp only [Bool.and_eq_true, List.all_eq_true] at ck
  obtain ⟨⟨⟨⟨⟨c1, c2⟩, c3⟩, c4⟩, c5⟩, c6⟩ := ck
  unfold LD.stB at st
  simp only [Bool.and_eq_true, List.all_eq_true, decide_eq_true_eq] at st
  obtain ⟨⟨⟨⟨s1, s2⟩, s3⟩, s4⟩, s5⟩ := st
  have si := s3 i (List.mem_range.mpr (List.getElem?_eq_some_iff.mp hr).1)
  unfold LD.inB at si
  split at si
  · rename_i d x r' e1 e2 e3
    rw [hr] at e3
    cases e3
    have ec : L.cl.getD i Str.empty = x := by rw [List.getD_eq_getElem?_getD, e2]; rfl
    have hm := c4 d (List.mem_of_getElem? e1)
    split at si
    · rename_i t et
      rw [et] at hm
      simp only [Bool.and_eq_true, decide_eq_true_eq, beq_iff_eq] at si hm
      obtain ⟨⟨⟨⟨⟨i1, i2⟩, i3⟩, i4⟩, i5⟩, i6⟩ := si
      obtain ⟨⟨⟨⟨⟨⟨m1, m2⟩, m3⟩, m4⟩, m5⟩, m6⟩, m7⟩ := hm
      split at i6
      · rename_i y mm ea
        simp only [Bool.and_eq_true, beq_iff_eq] at i6
        obtain ⟨rfl, rfl⟩ := i6
        have eat : d.at_.1 = y := by rw [ea]
        rw [eat] at m3 m4 m5 m6
        rw [ec]
        have hj : L.all[L.fn.length + i]? = some d := by
          unfold LD.all
          rw [List.getElem?_append_right (by omega)]
          rw [show L.fn.length + i - L.fn.length = i by omega]
          exact e1
        obtain ⟨oc, od, osl, kV, doc, pm, an, cdv, ct, lk, hcd⟩ := obs_def e hj
        rw [i5] at lk
        have F := init_ok (P := P) (w := w) (mg := mg) (base := base) (C := He.ga K y) lk hcd et i1 (scB_ok i4) (baseB_ok m2) (He.glo_ok X Gm m1)
        refine ⟨oexB_ok m3, fun f hf => ?_, xfB_ok m4, He.fAd K d.at_, PySem.W.fnOf "__init__" d.qual d.params d.body d.scope .none kV doc pm an cdv ct, inNames t, of_decide_eq_true m6, m7, ?_, ?_⟩
        · rw [← i2] at hf
          cases ef : t.fld with
          | none => rw [ef] at hf; cases hf
          | some fg =>
            rw [ef] at hf m5
            cases hf
            exact of_decide_eq_true m5
        · rw [← i2]; exact F
        · intro s us kin hl
          rw [List.append_nil] at hl ⊢
          exact BindsTo.of_eq (bind_plain (plainB_ok i3) (scB_ok i4).nd rfl hl.symm (.inl ⟨rfl, rfl⟩))
      · cases i6
    · cases si
  · cases si
theorem nm_at {i : Nat} {d : He.FnD} (h : L.fn[i]? = some d) : L.nm i = d.name := by
  unfold LD.nm
  rw [h]
  rfl
/-- all of it, at each depth -/
theorem gt_all (X : K.In h) (Gm : h.Ns mainGlobals mg) (e : L.obs K = L.val) (st : L.stB = true) (cp : ∀ i fd, L.fns[i]? = some fd → ∃ n, L.comp n i = some fd.body) : ∀ k, GT (L.tb P w K mg) base L.G k := by
  have ck := obs_chk e
  have st0 := st
  unfold LD.chk at ck
  simp only [Bool.and_eq_true, List.all_eq_true] at ck
  obtain ⟨⟨⟨⟨⟨c1, c2⟩, c3⟩, c4⟩, c5⟩, c6⟩ := ck
  unfold LD.stB at st
  simp only [Bool.and_eq_true, List.all_eq_true, decide_eq_true_eq] at st
  obtain ⟨⟨⟨⟨s1, s2⟩, s3⟩, s4⟩, s5⟩ := st
  have lps : L.G.ps.length = L.fn.length := by unfold LD.G LD.ps; simp
  -- what does not hang on the depth
  have mk : ∀ k, (∀ i, i < L.G.ps.length → FOk (L.tb P w K mg) base L.G k i) → GT (L.tb P w K mg) base L.G k := fun k hk => by
    refine ⟨fun x i hx => ?_, hk, ?_, fun x i hx => ?_, fun i r hr => ?_, fun c hh b hb => ?_, fun c f hf => ?_, fun i f hf => ?_, fun i r hr => ?_, fun x hx => ?_⟩
    · have hi := idx_lookup hx
      rw [List.getElem?_map, Option.map_eq_some_iff] at hi
      obtain ⟨d, hd, rfl⟩ := hi
      have := (c1 d (List.mem_of_getElem? hd)).1
      show mg d.name = some (.ref (He.ga K (L.nm i)))
      rw [nm_at hd]
      exact He.glo_ok X Gm this
    · rw [lps]; exact s1
    · have hi := idx_lookup hx
      show mg x = some (.ref (He.ga K (L.cl.getD i Str.empty)))
      rw [List.getD_eq_getElem?_getD, hi]
      exact He.glo_ok X Gm (c3 x (List.mem_of_getElem? hi))
    · have ef : L.pr.fld i = r := by
        show (L.pf[i]?).bind id = r
        have hr' : L.pf[i]? = some r := hr
        rw [hr']
        rfl
      show ErrC P w K mg base (He.ga K (L.cl.getD i Str.empty)) ((L.pr.fld i).map L.fnm)
      rw [ef]
      exact err_ok X Gm e st0 hr
    · have hb : (L.tab[c]?).bind (·[hh]?) = some b := hb
      rw [Option.bind_eq_some_iff] at hb
      obtain ⟨row, h1, h2⟩ := hb
      have := c5 _ (idx_mem h1) _ (idx_mem h2)
      exact of_decide_eq_true this
    · have hf' : (L.pf[c]?).bind id = some f := hf
      rw [Option.bind_eq_some_iff] at hf'
      obtain ⟨r, h1, h2⟩ := hf'
      have h2 : r = some f := h2
      subst h2
      have E := err_ok (P := P) (w := w) (base := base) X Gm e st0 h1
      exact ⟨E.xf, E.nof _ rfl⟩
    · show L.fdN.getD i Str.empty = f
      rw [List.getD_eq_getElem?_getD]
      have hf' : L.fdN[i]? = some f := hf
      rw [hf']
      rfl
    · show (L.pf[i]?).bind id = r
      have hr' : L.pf[i]? = some r := hr
      rw [hr']
      rfl
    · exact He.free_ok X Gm (c2 x hx)
  intro k
  induction k with
  | zero =>
    refine mk 0 fun i hi => ?_
    rw [lps] at hi
    obtain ⟨d, hd⟩ : ∃ d, L.fn[i]? = some d := ⟨_, List.getElem?_eq_getElem hi⟩
    have sf := s2 i (List.mem_range.mpr hi)
    unfold LD.fnB at sf
    rw [hd] at sf
    split at sf
    · rename_i d' N fd e1 e2 e3
      cases e1
      simp only [Bool.and_eq_true, decide_eq_true_eq] at sf
      obtain ⟨⟨⟨⟨f1, f2⟩, f3⟩, f4⟩, f5⟩ := sf
      split at f5
      · rename_i y ea
        rw [beq_iff_eq] at f5
        subst f5
        obtain ⟨oc, od, osl, kV, doc, pm, an, cdv, ct, lk, hcd⟩ := obs_def (j := i) e (by unfold LD.all; rw [List.getElem?_append_left hi]; exact hd)
        have lkA : K.lookup (He.ga K (L.nm i)) = some ⟨oc, od, .func (PySem.W.fnOf d.name d.qual d.params d.body d.scope .none kV doc pm an cdv ct), osl⟩ := by
          rw [← lk, nm_at hd, ea]
          rfl
        have no : ∀ vs H Q E, ¬ spF (L.tb P w K mg) 0 i vs H Q E := fun vs H Q E ⟨ds, m, φ, rm, r, q⟩ => q.elim
        refine ⟨PySem.W.fnOf d.name d.qual d.params d.body d.scope .none kV doc pm an cdv ct, d.params.args.map (·.arg), ⟨oc, od, osl, lkA⟩, ?_, ⟨⟨fun vs H Q E q => absurd q (no _ _ _ _), fun A outer s H args us vs Q E hr he hb hv hs => absurd hs (no _ _ _ _)⟩, fun _ => ⟨fun vs H Q E q => absurd q (no _ _ _ _), fun A outer s H args us vs Q E p hr hot hpin e0 hb r hsp => absurd hsp (no _ _ _ _)⟩⟩, ?_, plainB_ok f1, ?_, rfl⟩
        · show (L.fn.map _)[i]? = _
          rw [List.getElem?_map, hd]
          rfl
        · show PySem.W.keepIn K (.ref (He.ga K (L.nm i))) = true
          rw [nm_at hd]
          exact (c1 d (List.mem_of_getElem? hd)).2
        · have S := scB_ok f2
          have := S.nd.sublist (List.take_sublist (d.params.args.map (·.arg)).length N)
          rw [S.pre] at this
          exact this
      · cases f5
    · cases sf
  | succ k ih =>
    refine mk (k + 1) fun i hi => ?_
    rw [lps] at hi
    obtain ⟨d, hd⟩ : ∃ d, L.fn[i]? = some d := ⟨_, List.getElem?_eq_getElem hi⟩
    have sf := s2 i (List.mem_range.mpr hi)
    unfold LD.fnB at sf
    rw [hd] at sf
    split at sf
    · rename_i d' N fd e1 e2 e3
      cases e1
      simp only [Bool.and_eq_true, decide_eq_true_eq] at sf
      obtain ⟨⟨⟨⟨f1, f2⟩, f3⟩, f4⟩, f5⟩ := sf
      split at f5
      · rename_i y ea
        rw [beq_iff_eq] at f5
        subst f5
        obtain ⟨oc, od, osl, kV, doc, pm, an, cdv, ct, lk, hcd⟩ := obs_def (j := i) e (by unfold LD.all; rw [List.getElem?_append_left hi]; exact hd)
        have S := scB_ok f2
        obtain ⟨n, hc⟩ := cp i fd e3
        unfold LD.comp at hc
        rw [hd, e2] at hc
        have eA : He.fAd K d.at_ = He.ga K (L.nm i) := by
          rw [nm_at hd, ea]
          rfl
        rw [eA] at lk
        have lkA := lk
        have He_ : CEok (L.tb P w K mg) L.G k (cE L.G n) := cE_ok n
        have Hs_ : CSok (L.tb P w K mg) L.G k (cS L.G (cE L.G n) n) := cS_ok He_ (lcOk_cE n) (noDict_cE n) (noSet_cE n) n
        have run_eq : ∀ ds m, ds.length = fd.np → Ev.run L.pr (k + 1) i ds m = (Ev.evSs ⟨Ev.run L.pr k, L.pr.sub, L.pr.fld⟩ none fd.body (Ev.start fd ds) m).toRet := fun ds m hl => by
          have e3' : L.pr.fns[i]? = some fd := e3
          show (match L.pr.fns[i]? with
            | some fd => if ds.length = fd.np then (Ev.evSs ⟨Ev.run L.pr k, L.pr.sub, L.pr.fld⟩ none fd.body (Ev.start fd ds) m).toRet else .stuck
            | none => .stuck) = _
          rw [e3']
          simp only
          rw [if_pos hl]
        have run_no : ∀ ds m, ds.length ≠ fd.np → Ev.run L.pr (k + 1) i ds m = .stuck := fun ds m hl => by
          have e3' : L.pr.fns[i]? = some fd := e3
          show (match L.pr.fns[i]? with
            | some fd => if ds.length = fd.np then (Ev.evSs ⟨Ev.run L.pr k, L.pr.sub, L.pr.fld⟩ none fd.body (Ev.start fd ds) m).toRet else .stuck
            | none => .stuck) = _
          rw [e3']
          simp only
          rw [if_neg hl]
        have len : ∀ vs H Q E, spF (L.tb P w K mg) (k + 1) i vs H Q E → vs.length = (d.params.args.map (·.arg)).length := fun vs H Q E ⟨ds, m, φ, rm, r, q⟩ => by
          by_cases hl : ds.length = fd.np
          · rw [r.length, hl, f3]
          · have q : OkD (L.tb P w K mg) φ m H (Ev.run L.pr (k + 1) i ds m) Q E := q
            rw [run_no _ _ hl] at q
            exact q.elim
        have body : ∀ (X : Cx) (vs : List V) (H : Hp) (Q : VK) (E : XK), XS (L.tb P w K mg) L.G ⟨d.scope, N, !L.hot.getD i false, none, cellsOf d.scope⟩ k X (fun c d _ H => E c d H) none → spF (L.tb P w K mg) (k + 1) i vs H Q E →
            ∃ t, PSs X d.body t ∧ t { nx := fun _ H' => Q .non H', rt := Q } (L2.start N vs) H := fun X vs H Q E xs hsp => by
          refine ⟨_, pss_cs Hs_ xs hc, ?_⟩
          have hl := len vs H Q E hsp
          obtain ⟨ds, m, φ, rm, r, q⟩ := hsp
          have q : OkD (L.tb P w K mg) φ m H (Ev.run L.pr (k + 1) i ds m) Q E := q
          have hdl : ds.length = fd.np := by rw [← r.length, hl, f3]
          rw [run_eq ds m hdl] at q
          exact ⟨none, Ev.start fd ds, m, φ, ⟨rm, rl_start r f4, trivial⟩, toRet_ok q⟩
        refine ⟨PySem.W.fnOf d.name d.qual d.params d.body d.scope .none kV doc pm an cdv ct, d.params.args.map (·.arg), ⟨oc, od, osl, lkA⟩, ?_, ⟨?_, fun hh => ?_⟩, ?_, plainB_ok f1, ?_, rfl⟩
        · show (L.fn.map _)[i]? = _
          rw [List.getElem?_map, hd]
          rfl
        · refine fn_of (k := k + 3) lk hcd S len fun A outer s H vs Q E hr hsp => body _ vs H Q E ?_ hsp
          exact {
            gt := ih, prog := rfl, w := rfl, K := rfl, mg := rfl, N := rfl, nd := S.nd, sc := rfl
            tk := L2N.takes_of rfl rfl rfl rfl
            mild := .inl rfl
            calm := fun _ => rfl
            room := ⟨fun _ => hr, L2H.roomH_of hr⟩
            hv := rfl
            cw := fun _ _ => rfl
            suc := fun u hu => by cases hu
            pass := L2.passes_of rfl
            stk := rfl
            frm := rfl }
        · refine L2H.fn_ofH (k := k + 3) lk hcd S len fun A outer s H vs Q E p hot hr hsp => body _ vs H Q E ?_ hsp
          have hh : L.hot.getD i false = true := hh
          exact {
            gt := ih, prog := rfl, w := rfl, K := rfl, mg := rfl, N := rfl, nd := S.nd, sc := rfl
            tk := L2N.takes_of rfl rfl rfl rfl
            mild := .inr ⟨p, hot, List.mem_singleton.mpr rfl⟩
            calm := fun z => by rw [hh] at z; cases z
            room := ⟨(fun z => nomatch z), hr⟩
            hv := rfl
            cw := fun _ _ => rfl
            suc := fun u hu => by cases hu
            pass := L2.passes_of rfl
            stk := rfl
            frm := rfl }
        · show PySem.W.keepIn K (.ref (He.ga K (L.nm i))) = true
          rw [nm_at hd]
          exact (c1 d (List.mem_of_getElem? hd)).2
        · have := S.nd.sublist (List.take_sublist (d.params.args.map (·.arg)).length N)
          rw [S.pre] at this
          exact this
      · cases f5
    · cases sf
end
end EvC
set_option linter.all false
set_option maxRecDepth 100000
set_option maxHeartbeats 4000000
/-! EvC3: the end: the law holds if the evaluator says so. -/
namespace EvC
open PySem PySem.Spec PyProof.Rows L2 EvM EvB
open Ev (D Ob Mem Rs RS Lc Ky Cur)
def CXe (P : Program) : CXT := fun outer H s E u s' => ∃ w, L2N.CX P w outer H s E u s'
theorem to_cxe {P : Program} {w : World} {K : PySem.W.Frag} {mg : Str → Option Value} {base : Heap} {k : Nat} {f : Addr} {fd : FuncData} {ps : List Str} {sp : Sp} (F : FnOk P w K mg base (L2N.CX P w) k f fd ps sp) : FnOk P w K mg base (CXe P) k f fd ps sp := by
  refine ⟨F.len, fun A outer s H args us vs Q E hr he hb hv hs => codeAny_mono (F.run A outer s H args us vs Q E hr he hb hv hs) fun r s' q => ?_⟩
  cases r with
  | error e => exact ⟨w, q⟩
  | ok fl => cases fl <;> exact q
theorem rds_ints {T : Tb} {φ : Nat → Addr} {n : Nat} {H : Hp} : ∀ ns : List Int, RDs T φ n H (ns.map D.int) (ns.map V.int)
  | [] => rfl
  | i :: ns => ⟨_, _, rfl, rfl, rds_ints ns⟩
theorem no_list {L : LD} {K : PySem.W.Frag} (e : L.obs K = L.val) {a : Addr} {o : Obj} (h : K.lookup a = some o) : o.cls ≠ .type "list" := fun z => by
  have ck := obs_chk e
  unfold LD.chk at ck
  simp only [Bool.and_eq_true, List.all_eq_true] at ck
  have mem : ∀ {l : PySem.W.Frag}, l.lookup a = some o → (a, o) ∈ l := by
    intro l
    induction l with
    | nil => intro h; cases h
    | cons p l ih =>
      obtain ⟨b, o2⟩ := p
      intro h
      rw [List.lookup_cons] at h
      split at h
      · rename_i e
        have e2 : a = b := by simpa using e
        cases h
        subst e2
        exact List.mem_cons_self
      · exact List.mem_cons_of_mem _ (ih h)
  have := ck.2 _ (mem h)
  rw [z] at this
  cases this
theorem the_end {L : LD} {l : PySem.W.OpenLaw} {q : Program} {loose : List Str} {XP : (Str → Option Value) → Heap → Prop} {dr : DefRec} {n kk i : Nat} {d : He.FnD} {x : Str}
    (hn : l.most = some n) (hn2 : n ≤ sizeLine) (hdf : dr.params.defaults = []) (hr : Room (kk + 3) callerA) (st : L.stB = true) (cp : ∀ i fd, L.fns[i]? = some fd → ∃ n, L.comp n i = some fd.body)
    (hd : L.fn[i]? = some d) (hx : d.params.args.map (·.arg) = [x]) (hnm : dr.name = d.name)
    (hrun : ∀ ns : List Int, ns.length ≤ n → ∃ m, Ev.run L.pr kk i [.obj 0] [.fro (ns.map D.int)] = .ok (.bl true) m) :
    PySem.W.WalkO q loose XP (fun _ h => ∃ K : PySem.W.Frag, K.In h ∧ L.obs K = L.val) l.row.toRowW dr [] (fun f vs => PySem.call f vs) := by
  refine L2.walk_ofE (l := l) (n := n) (k := kk + 3) (x := x) (CX := CXe l.prog) hn hn2 hdf hr ?_ fun H s e s' z => ?_
  · intro w mg fa h Y G hmg
    obtain ⟨K, KX, e⟩ := Y
    have gt : ∀ base, GT (L.tb l.prog w K mg) base L.G kk := fun base => gt_all KX G e st cp kk
    have hi : i < L.G.ps.length := by
      rw [← (gt h).len]
      have : L.fns.length = L.fn.length := by
        unfold LD.stB at st
        simp only [Bool.and_eq_true, decide_eq_true_eq] at st
        exact st.1.1.1.1
      show i < L.fns.length
      rw [this]
      exact (List.getElem?_eq_some_iff.mp hd).1
    have hps : L.G.ps[i]? = some [x] := by
      show (L.fn.map _)[i]? = _
      rw [List.getElem?_map, hd]
      show some (d.params.args.map (·.arg)) = _
      rw [hx]
    have hfa : fa = He.ga K (L.nm i) := by
      have hlk : L.G.fnN.lookup (L.nm i) = some i := by
        have hnd : (L.fn.map (·.name)).Nodup := by
          unfold LD.stB at st
          simp only [Bool.and_eq_true, decide_eq_true_eq] at st
          exact st.2
        have key : ∀ {l : List Str} {k j : Nat} {y : Str}, l.Nodup → l[j]? = some y → (l.zip (List.range' k l.length)).lookup y = some (k + j) := by
          intro l
          induction l with
          | nil => intro k j y _ h; simp at h
          | cons a l ih =>
            intro k j y nd h
            rw [List.length_cons, List.range'_succ, List.zip_cons_cons, List.lookup_cons]
            rw [List.nodup_cons] at nd
            cases j with
            | zero =>
              simp only [List.getElem?_cons_zero, Option.some.injEq] at h
              subst h
              simp
            | succ j =>
              simp only [List.getElem?_cons_succ] at h
              have hne : (y == a) = false := by
                rw [beq_eq_false_iff_ne]
                rintro rfl
                exact nd.1 (List.mem_of_getElem? h)
              rw [hne]
              simp only
              rw [ih nd.2 h]
              congr 1
              omega
        show (idx (L.fn.map (·.name))).lookup (L.nm i) = some i
        unfold idx
        rw [List.range_eq_range', key hnd (y := L.nm i) (j := i) (by rw [List.getElem?_map, hd, nm_at hd]; rfl)]
        simp
      have := (gt h).fn _ _ hlk
      have e1 : mg (L.nm i) = some (.ref (He.ga K (L.nm i))) := this
      rw [nm_at hd, ← hnm, hmg] at e1
      have e2 := Option.some.inj e1
      rw [nm_at hd, ← hnm]
      injection e2
    have ex := ((gt h).fok i hi).ex
    obtain ⟨fd, ps, ⟨oc, od, osl, lk1⟩, ep, F, hk, pp, nd, hdn⟩ := ex
    rw [hps] at ep
    cases ep
    refine ⟨K, fd, spF (L.tb l.prog w K mg) kk i, KX, fun s u => ?_, fun H a ns hl hO hS => ?_, fun base hb hbm => ?_⟩
    · exact BindsTo.of_eq (bind_plain (us := [u]) (ws := [u]) pp nd hdn rfl (.inl ⟨rfl, rfl⟩))
    · obtain ⟨m, hm⟩ := hrun ns hl
      have hF : ∃ o, H a = some (.frz o (.lst (ns.map V.int))) := by
        rcases hS with (hS | ⟨o, hS⟩) | ⟨o, its, n', lk, hc, _⟩
        · rcases hO a with z | ⟨o, xs, z⟩
          · rw [z] at hS; cases hS
          · rw [z] at hS; cases hS
        · exact ⟨o, hS⟩
        · exact absurd hc (no_list e lk)
      obtain ⟨o, hF⟩ := hF
      refine ⟨[.obj 0], [.fro (ns.map D.int)], fun _ => a, ⟨fun j ob hj => ?_, fun j1 j2 h1 h2 _ => ?_⟩, ⟨.ref a, [], rfl, ⟨by simp, rfl⟩, rfl⟩, ?_⟩
      · have e0 : j = 0 := by
          have := (List.getElem?_eq_some_iff.mp hj).1
          simp at this
          exact this
        subst e0
        simp only [List.getElem?_cons_zero, Option.some.injEq] at hj
        subst hj
        exact ⟨o, _, hF, rds_ints ns⟩
      · simp at h1 h2
        omega
      · show OkD _ _ _ H (Ev.run L.pr kk i [.obj 0] [.fro (ns.map D.int)]) _ _
        rw [hm]
        intro φ' H' v x rm r
        exact r
    · have ex := ((gt base).fok i hi).ex
      obtain ⟨fd2, ps2, ⟨oc2, od2, osl2, lk2⟩, ep2, F2, hk2, pp2, nd2, hdn2⟩ := ex
      rw [hps] at ep2
      cases ep2
      rw [lk1] at lk2
      cases lk2
      rw [hfa]
      exact to_cxe F2.calm
  · obtain ⟨w, a, B, H', cls, d, _, _, _, _, _, _, _, z⟩ := z
    exact z
theorem ob_eq {L : LD} {n : Nat} (s : PySem.W.SharedT) : L.ob n s = (L.hook n).obs s.abs := by
  have e : HandSHeadRun.getT s = s.abs.heap.get? := funext (HandSHeadRun.getT_eq s)
  show L.obs (part n (HandSHeadRun.getT s)) = L.obs (part n s.abs.heap.get?)
  rw [e]
end EvC
set_option linter.all false
set_option maxRecDepth 100000
set_option maxHeartbeats 0
/-! K00: the program in the evaluator's language; printed by gen.py. -/
namespace K00
open PySem PySem.W PySem.Calls PyProof.Rows
abbrev R : OpenRow := OpenLaw.row PySem.Challenge.rw_fivetimes_k00_numbers

/-- is_integer (value) -/
def f0 : Ev.Fd := ⟨1, 1, [.ret (.and (.isi [.int] (.var 0)) (.not (.isi [.bool] (.var 0))))]⟩
/-- is_tuple (value, size) -/
def f1 : Ev.Fd := ⟨2, 2, [.ret (.and (.isi [.tuple] (.var 0)) (.cmp .eq (.blt .len [.var 0]) (.var 1)))]⟩
/-- divisor (one, other) -/
def f2 : Ev.Fd := ⟨2, 2, [
  .wh (.cmp .ne (.var 1) (.lit (.int 0))) [.asg (.tup [.nm 0, .nm 1]) (.tup [.var 1, .op2 .mod (.var 0) (.var 1)])],
  .ret (.var 0)]⟩
/-- lowest (top, base, common, sign) -/
def f3 : Ev.Fd := ⟨2, 4, [
  .asg (.nm 2) (.call 2 [.blt .abs [.var 0], .blt .abs [.var 1]]),
  .asg (.nm 3) (.ife (.cmp .gt (.var 1) (.lit (.int 0))) (.lit (.int 1)) (.neg (.lit (.int 1)))),
  .ret (.tup [.op2 .fdiv (.op2 .mul (.var 3) (.var 0)) (.var 2), .op2 .fdiv (.op2 .mul (.var 3) (.var 1)) (.var 2)])]⟩
/-- fraction (top, base) -/
def f4 : Ev.Fd := ⟨2, 2, [
  .ife (.not (.call 0 [.var 0])) [.rais 2 [.var 0]] [],
  .ife (.or (.not (.call 0 [.var 1])) (.cmp .eq (.var 1) (.lit (.int 0)))) [.rais 0 [.var 1]] [],
  .ret (.call 3 [.var 0, .var 1])]⟩
/-- is_number (value) -/
def f5 : Ev.Fd := ⟨1, 1, [
  .ife (.or (.not (.call 1 [.var 0, .lit (.int 2)])) (.or (.not (.call 0 [.idx (.var 0) (.lit (.int 0))])) (.not (.call 0 [.idx (.var 0) (.lit (.int 1))])))) [.ret (.lit (.bl false))] [],
  .ret (.and (.cmp .gt (.idx (.var 0) (.lit (.int 1))) (.lit (.int 0))) (.cmp .eq (.call 2 [.blt .abs [.idx (.var 0) (.lit (.int 0))], .idx (.var 0) (.lit (.int 1))]) (.lit (.int 1))))]⟩
/-- check_number (number) -/
def f6 : Ev.Fd := ⟨1, 1, [.ife (.not (.call 5 [.var 0])) [.rais 1 [.var 0]] []]⟩
/-- check_two (one, other) -/
def f7 : Ev.Fd := ⟨2, 2, [
  .ex (.call 6 [.var 0]),
  .ex (.call 6 [.var 1])]⟩
/-- sum_of (one, other) -/
def f8 : Ev.Fd := ⟨2, 2, [.ret (.call 3 [.op2 .add (.op2 .mul (.idx (.var 0) (.lit (.int 0))) (.idx (.var 1) (.lit (.int 1)))) (.op2 .mul (.idx (.var 1) (.lit (.int 0))) (.idx (.var 0) (.lit (.int 1)))), .op2 .mul (.idx (.var 0) (.lit (.int 1))) (.idx (.var 1) (.lit (.int 1)))])]⟩
/-- less_of (one, other) -/
def f9 : Ev.Fd := ⟨2, 2, [.ret (.call 3 [.op2 .sub (.op2 .mul (.idx (.var 0) (.lit (.int 0))) (.idx (.var 1) (.lit (.int 1)))) (.op2 .mul (.idx (.var 1) (.lit (.int 0))) (.idx (.var 0) (.lit (.int 1)))), .op2 .mul (.idx (.var 0) (.lit (.int 1))) (.idx (.var 1) (.lit (.int 1)))])]⟩
/-- product_of (one, other) -/
def f10 : Ev.Fd := ⟨2, 2, [.ret (.call 3 [.op2 .mul (.idx (.var 0) (.lit (.int 0))) (.idx (.var 1) (.lit (.int 0))), .op2 .mul (.idx (.var 0) (.lit (.int 1))) (.idx (.var 1) (.lit (.int 1)))])]⟩
/-- share_of (one, other) -/
def f11 : Ev.Fd := ⟨2, 2, [.ret (.call 3 [.op2 .mul (.idx (.var 0) (.lit (.int 0))) (.idx (.var 1) (.lit (.int 1))), .op2 .mul (.idx (.var 0) (.lit (.int 1))) (.idx (.var 1) (.lit (.int 0)))])]⟩
/-- sign_between (one, other, gap) -/
def f12 : Ev.Fd := ⟨2, 3, [
  .asg (.nm 2) (.op2 .sub (.op2 .mul (.idx (.var 0) (.lit (.int 0))) (.idx (.var 1) (.lit (.int 1)))) (.op2 .mul (.idx (.var 1) (.lit (.int 0))) (.idx (.var 0) (.lit (.int 1))))),
  .ret (.ife (.cmp .eq (.var 2) (.lit (.int 0))) (.lit (.int 0)) (.ife (.cmp .gt (.var 2) (.lit (.int 0))) (.lit (.int 1)) (.neg (.lit (.int 1)))))]⟩
/-- add (one, other) -/
def f13 : Ev.Fd := ⟨2, 2, [
  .ex (.call 7 [.var 0, .var 1]),
  .ret (.call 8 [.var 0, .var 1])]⟩
/-- subtract (one, other) -/
def f14 : Ev.Fd := ⟨2, 2, [
  .ex (.call 7 [.var 0, .var 1]),
  .ret (.call 9 [.var 0, .var 1])]⟩
/-- multiply (one, other) -/
def f15 : Ev.Fd := ⟨2, 2, [
  .ex (.call 7 [.var 0, .var 1]),
  .ret (.call 10 [.var 0, .var 1])]⟩
/-- divide (one, other) -/
def f16 : Ev.Fd := ⟨2, 2, [
  .ex (.call 7 [.var 0, .var 1]),
  .ife (.cmp .eq (.idx (.var 1) (.lit (.int 0))) (.lit (.int 0))) [.rais 3 []] [],
  .ret (.call 11 [.var 0, .var 1])]⟩
/-- compare (one, other) -/
def f17 : Ev.Fd := ⟨2, 2, [
  .ex (.call 7 [.var 0, .var 1]),
  .ret (.call 12 [.var 0, .var 1])]⟩
/-- _law_cell (script, k) -/
def f18 : Ev.Fd := ⟨2, 2, [.ret (.ife (.cmp .lt (.var 1) (.blt .len [.var 0])) (.idx (.var 0) (.var 1)) (.op2 .add (.op2 .mul (.lit (.int 6473)) (.var 1)) (.op2 .mod (.blt .int [.blt .sum [.slc (.var 0) none (some (.lit (.int 1)))]]) (.lit (.int 1000003)))))]⟩
/-- _law_box (great) -/
def f19 : Ev.Fd := ⟨1, 1, [.ret (.lst [.blt .abs [.var 0], .cmp .ge (.blt .abs [.var 0]) (.op2 .pow (.lit (.int 10)) (.lit (.int 18))), .op2 .mod (.blt .int [.blt .abs [.var 0]]) (.lit (.int 2147483629)), .lit (.int 0)])]⟩
/-- _law_take (box, many, digit, mixed) -/
def f20 : Ev.Fd := ⟨2, 4, [
  .ife (.and (.idx (.var 0) (.lit (.int 1))) (.cmp .gt (.idx (.var 0) (.lit (.int 0))) (.lit (.int 0)))) [
    .asg (.nm 2) (.op2 .mod (.blt .int [.idx (.var 0) (.lit (.int 0))]) (.var 1)),
    .put (.var 0) (.lit (.int 0)) (.op2 .fdiv (.idx (.var 0) (.lit (.int 0))) (.var 1)),
    .ret (.var 2)] [],
  .put (.var 0) (.lit (.int 3)) (.op2 .add (.idx (.var 0) (.lit (.int 3))) (.lit (.int 1))),
  .asg (.nm 3) (.op2 .mod (.blt .int [.op2 .pow (.op2 .add (.op2 .add (.idx (.var 0) (.lit (.int 2))) (.op2 .mul (.lit (.int 15487493)) (.idx (.var 0) (.lit (.int 3))))) (.lit (.int 179426105))) (.lit (.int 5))]) (.lit (.int 2147483647))),
  .ret (.op2 .mod (.blt .int [.op2 .fdiv (.op2 .mod (.blt .int [.op2 .pow (.op2 .add (.op2 .mul (.var 3) (.lit (.int 48271))) (.op2 .mul (.lit (.int 104743)) (.idx (.var 0) (.lit (.int 3))))) (.lit (.int 3))]) (.lit (.int 2147483587))) (.lit (.int 64))]) (.var 1))]⟩
/-- _law_pick (box, items) -/
def f21 : Ev.Fd := ⟨2, 2, [.ret (.idx (.var 1) (.call 20 [.var 0, .blt .len [.var 1]]))]⟩
/-- _law_low (top, base, one, other, sign) -/
def f22 : Ev.Fd := ⟨2, 5, [
  .asg (.tup [.nm 2, .nm 3]) (.tup [.blt .abs [.var 0], .blt .abs [.var 1]]),
  .wh (.cmp .ne (.var 3) (.lit (.int 0))) [.asg (.tup [.nm 2, .nm 3]) (.tup [.var 3, .op2 .mod (.blt .int [.var 2]) (.var 3)])],
  .asg (.nm 4) (.ife (.cmp .gt (.var 1) (.lit (.int 0))) (.lit (.int 1)) (.neg (.lit (.int 1)))),
  .ret (.tup [.op2 .fdiv (.op2 .mul (.var 4) (.var 0)) (.var 2), .op2 .fdiv (.op2 .mul (.var 4) (.var 1)) (.var 2)])]⟩
/-- _law_same (told, due, k, key) -/
def f23 : Ev.Fd := ⟨2, 4, [
  .ife (.or (.cmp .is (.var 1) (.lit .non)) (.isi [.bool] (.var 1))) [.ret (.ife (.cmp .is (.var 1) (.lit .non)) (.cmp .is (.var 0) (.lit .non)) (.and (.isi [.bool] (.var 0)) (.cmp .eq (.cmp .is (.var 0) (.lit (.bl true))) (.cmp .is (.var 1) (.lit (.bl true))))))] [],
  .ife (.isi [.int] (.var 1)) [.ret (.and (.isi [.int] (.var 0)) (.and (.not (.isi [.bool] (.var 0))) (.cmp .eq (.var 0) (.var 1))))] [],
  .ife (.isi [.str] (.var 1)) [.ret (.and (.isi [.str] (.var 0)) (.cmp .eq (.var 0) (.var 1)))] [],
  .ife (.isi [.dict] (.var 1)) [
    .ife (.or (.not (.isi [.dict] (.var 0))) (.cmp .ne (.blt .len [.var 0]) (.blt .len [.var 1]))) [.ret (.lit (.bl false))] [],
    .ret (.cmp .eq (.comp [3] (.var 3) (.nm 3) (.e (.var 1)) (some (.or (.cmp .notin (.var 3) (.var 0)) (.not (.call 23 [.idx (.var 0) (.var 3), .idx (.var 1) (.var 3)]))))) (.lst []))] [],
  .ife (.or (.not (.isi [.list, .tuple] (.var 0))) (.or (.cmp .ne (.isi [.list] (.var 0)) (.isi [.list] (.var 1))) (.cmp .ne (.blt .len [.var 0]) (.blt .len [.var 1])))) [.ret (.lit (.bl false))] [],
  .ret (.cmp .eq (.comp [2] (.var 2) (.nm 2) (.r1 (.blt .len [.var 1])) (some (.not (.call 23 [.idx (.var 0) (.var 2), .idx (.var 1) (.var 2)])))) (.lst []))]⟩
/-- _law_blamed (given, value) -/
def f24 : Ev.Fd := ⟨2, 2, [
  .ife (.not (.call 23 [.var 0, .var 1])) [.ret (.lit (.bl false))] [],
  .ife (.isi [.list] (.var 1)) [.ex (.mth .append (.var 1) [.lit (.int 7)])] [],
  .ret (.call 23 [.var 0, .var 1])]⟩
/-- _law_drawn (box, way, top, base) -/
def f25 : Ev.Fd := ⟨1, 4, [
  .asg (.nm 1) (.call 20 [.var 0, .lit (.int 6)]),
  .ife (.cmp .lt (.var 1) (.lit (.int 4))) [.ret (.call 22 [.idx (.lst [.lit (.int 0), .lit (.int 1), .neg (.lit (.int 1)), .lit (.int 2), .lit (.int 3), .neg (.lit (.int 4)), .lit (.int 6), .lit (.int 7)]) (.call 20 [.var 0, .lit (.int 8)]), .idx (.lst [.lit (.int 1), .lit (.int 1), .lit (.int 2), .lit (.int 3), .lit (.int 4), .lit (.int 6)]) (.call 20 [.var 0, .lit (.int 6)])])] [],
  .asg (.tup [.nm 2, .nm 3]) (.tup [.op2 .add (.op2 .pow (.lit (.int 10)) (.lit (.int 19))) (.op2 .mul (.call 20 [.var 0, .lit (.int 97)]) (.op2 .pow (.lit (.int 10)) (.lit (.int 9)))), .ife (.cmp .eq (.var 1) (.lit (.int 5))) (.op2 .sub (.op2 .pow (.lit (.int 10)) (.lit (.int 19))) (.op2 .mul (.call 20 [.var 0, .lit (.int 89)]) (.op2 .pow (.lit (.int 10)) (.lit (.int 8))))) (.lit (.int 1))]),
  .ret (.call 22 [.ife (.cmp .eq (.call 20 [.var 0, .lit (.int 2)]) (.lit (.int 0))) (.neg (.var 2)) (.var 2), .var 3])]⟩
/-- _law_wrong (box, values) -/
def f26 : Ev.Fd := ⟨1, 2, [
  .asg (.nm 1) (.lst [.tup [.lit (.int 2), .lit (.int 4)], .tup [.lit (.int 0), .lit (.int 2)], .tup [.lit (.int 1), .lit (.int 0)], .tup [.lit (.int 1), .neg (.lit (.int 2))], .lst [.lit (.int 1), .lit (.int 2)], .tup [.lit (.int 1)], .tup [.lit (.int 1), .lit (.int 2), .lit (.int 3)], .lit (.int 1), .lit (.bl true), .lit .non, .lit (.str "1"), .tup [.lit (.bl true), .lit (.int 1)], .tup [.lit (.int 1), .lit (.bl true)], .tup [.tup [.lit (.int 1)], .lit (.int 2)], .tup [], .lst [], .dct0, .tup [.lit (.int 0), .lit (.int 0)], .tup [.lit (.str "1"), .lit (.int 2)]]),
  .ret (.call 21 [.var 0, .var 1])]⟩
/-- _law_fractions_right (box, by_name, turn, one, much, top, base, value) -/
def f27 : Ev.Fd := ⟨2, 8, [
  .for (.nm 2) (.r1 (.lit (.int 3))) [
    .asg (.tup [.nm 3, .nm 4]) (.tup [.call 25 [.var 0], .idx (.lst [.lit (.int 1), .lit (.int 2), .neg (.lit (.int 1)), .neg (.lit (.int 6)), .lit (.int 10)]) (.call 20 [.var 0, .lit (.int 5)])]),
    .ife (.cmp .ge (.blt .max2 [.blt .abs [.idx (.var 3) (.lit (.int 0))], .idx (.var 3) (.lit (.int 1))]) (.op2 .pow (.lit (.int 10)) (.lit (.int 18)))) [.asg (.nm 4) (.idx (.lst [.lit (.int 1), .neg (.lit (.int 1))]) (.call 20 [.var 0, .lit (.int 2)]))] [],
    .asg (.tup [.nm 5, .nm 6]) (.tup [.op2 .mul (.idx (.var 3) (.lit (.int 0))) (.var 4), .op2 .mul (.idx (.var 3) (.lit (.int 1))) (.var 4)]),
    .ife (.or (.not (.call 23 [.ife (.var 1) (.callk 4 [0, 1] [.var 5, .var 6]) (.call 4 [.var 5, .var 6]), .var 3])) (.not (.call 23 [.call 5 [.var 3], .lit (.bl true)]))) [.ret (.lit (.bl false))] [],
    .ife (.and (.cmp .gt (.blt .abs [.var 4]) (.lit (.int 1))) (.not (.call 23 [.callk 5 [0] [.tup [.var 5, .var 6]], .lit (.bl false)]))) [.ret (.lit (.bl false))] []],
  .asg (.nm 7) (.call 26 [.var 0]),
  .ret (.call 23 [.ife (.var 1) (.callk 5 [0] [.var 7]) (.call 5 [.var 7]), .lit (.bl false)])]⟩
/-- _law_sums_right (box, by_name, one, way, other, a, b, c, d, turn, dues, told) -/
def f28 : Ev.Fd := ⟨2, 12, [
  .asg (.nm 2) (.call 25 [.var 0]),
  .asg (.nm 3) (.call 20 [.var 0, .lit (.int 5)]),
  .asg (.nm 4) (.ife (.cmp .eq (.var 3) (.lit (.int 0))) (.var 2) (.ife (.cmp .eq (.var 3) (.lit (.int 1))) (.tup [.neg (.idx (.var 2) (.lit (.int 0))), .idx (.var 2) (.lit (.int 1))]) (.call 25 [.var 0]))),
  .asg (.tup [.tup [.nm 5, .nm 6], .tup [.nm 7, .nm 8]]) (.tup [.var 2, .var 4]),
  .for (.nm 9) (.r1 (.lit (.int 2))) [
    .asg (.nm 10) (.lst [.call 22 [.op2 .add (.op2 .mul (.var 5) (.var 8)) (.op2 .mul (.var 7) (.var 6)), .op2 .mul (.var 6) (.var 8)], .call 22 [.op2 .sub (.op2 .mul (.var 5) (.var 8)) (.op2 .mul (.var 7) (.var 6)), .op2 .mul (.var 6) (.var 8)], .call 22 [.op2 .mul (.var 5) (.var 7), .op2 .mul (.var 6) (.var 8)]]),
    .ife (.var 1) [.asg (.nm 11) (.lst [.callk 13 [0, 1] [.var 2, .var 4], .callk 14 [1, 0] [.var 4, .var 2], .callk 15 [0, 1] [.var 2, .var 4]])] [.asg (.nm 11) (.lst [.call 13 [.var 2, .var 4], .call 14 [.var 2, .var 4], .call 15 [.var 2, .var 4]])],
    .ife (.not (.call 23 [.var 11, .var 10])) [.ret (.lit (.bl false))] [],
    .ife (.not (.call 23 [.ife (.var 1) (.call 17 [.var 2, .var 4]) (.callk 17 [1, 0] [.var 4, .var 2]), .op2 .sub (.blt .int [.cmp .gt (.op2 .mul (.var 5) (.var 8)) (.op2 .mul (.var 7) (.var 6))]) (.blt .int [.cmp .lt (.op2 .mul (.var 5) (.var 8)) (.op2 .mul (.var 7) (.var 6))])])) [.ret (.lit (.bl false))] [],
    .tr [
      .asg (.nm 11) (.ife (.var 1) (.callk 16 [0, 1] [.var 2, .var 4]) (.call 16 [.var 2, .var 4])),
      .ife (.or (.cmp .eq (.var 7) (.lit (.int 0))) (.not (.call 23 [.var 11, .call 22 [.op2 .mul (.var 5) (.var 8), .op2 .mul (.var 6) (.var 7)]]))) [.ret (.lit (.bl false))] []] [(3, none, [.ife (.cmp .ne (.var 7) (.lit (.int 0))) [.ret (.lit (.bl false))] []])],
    .asg (.tup [.tup [.nm 5, .nm 6], .tup [.nm 7, .nm 8], .nm 2, .nm 4]) (.tup [.tup [.var 7, .var 8], .tup [.var 5, .var 6], .var 4, .var 2])],
  .ret (.lit (.bl true))]⟩
/-- _law_refused (call, one, other, due, e) -/
def f29 : Ev.Fd := ⟨4, 5, [.tr [
    .ex (.callv (.var 0) [.var 1, .var 2]),
    .ret (.lit (.bl false))] [(1, some 4, [.ret (.call 24 [.cf 0, .var 3])]), (4, none, [.ret (.lit (.bl false))])]]⟩
/-- _law_refusals_right (box, by_name, call, good, wrong, more, first, top, base, values, due, e) -/
def f30 : Ev.Fd := ⟨2, 12, [
  .for (.nm 2) (.e (.tup [.lit (.fn 13), .lit (.fn 14), .lit (.fn 15), .lit (.fn 16), .lit (.fn 17)])) [
    .asg (.tup [.nm 3, .nm 4, .nm 5]) (.tup [.call 25 [.var 0], .call 26 [.var 0], .call 26 [.var 0]]),
    .ife (.or (.not (.call 29 [.var 2, .var 4, .var 3, .var 4])) (.not (.call 29 [.var 2, .var 3, .var 5, .var 5]))) [.ret (.lit (.bl false))] [],
    .asg (.nm 6) (.call 26 [.var 0]),
    .ife (.not (.call 29 [.var 2, .var 6, .call 21 [.var 0, .lst [.var 5, .tup [.lit (.int 0), .lit (.int 1)], .lit .non]], .var 6])) [.ret (.lit (.bl false))] []],
  .asg (.tup [.nm 7, .nm 8]) (.tup [.call 21 [.var 0, .lst [.lit .non, .lit (.bl true), .lit (.str "3"), .tup [.lit (.int 1), .lit (.int 1)], .lst [.lit (.int 3)], .dct0]], .call 21 [.var 0, .lst [.lit (.int 0), .lit (.bl false), .lit .non, .lit (.bl true), .lit (.str "1"), .lst [.lit (.int 2)], .tup [.lit (.int 1), .lit (.int 2)]]]]),
  .for (.tup [.nm 9, .nm 10]) (.e (.lst [.tup [.tup [.var 7, .lit (.int 2)], .var 7], .tup [.tup [.var 7, .var 8], .var 7], .tup [.tup [.lit (.int 3), .var 8], .var 8]])) [.tr [
      .ex (.ife (.var 1) (.callk 4 [0, 1] [.idx (.var 9) (.lit (.int 0)), .idx (.var 9) (.lit (.int 1))]) (.call 4 [.idx (.var 9) (.lit (.int 0)), .idx (.var 9) (.lit (.int 1))])),
      .ret (.lit (.bl false))] [(2, some 11, [.ife (.or (.cmp .eq (.idx (.var 9) (.lit (.int 0))) (.lit (.int 3))) (.not (.call 24 [.cf 0, .var 10]))) [.ret (.lit (.bl false))] []]), (0, some 11, [.ife (.or (.cmp .ne (.idx (.var 9) (.lit (.int 0))) (.lit (.int 3))) (.not (.call 24 [.cf 0, .var 10]))) [.ret (.lit (.bl false))] []]), (4, none, [.ret (.lit (.bl false))])]],
  .ret (.lit (.bl true))]⟩
/-- law (script, k, box, by_name) -/
def f31 : Ev.Fd := ⟨1, 4, [
  .for (.nm 1) (.r1 (.blt .max2 [.lit (.int 2), .blt .min2 [.lit (.int 3), .blt .len [.var 0]]])) [
    .asg (.nm 2) (.call 19 [.call 18 [.var 0, .var 1]]),
    .asg (.nm 3) (.cmp .eq (.call 20 [.var 2, .lit (.int 2)]) (.lit (.int 0))),
    .ife (.or (.not (.call 27 [.var 2, .var 3])) (.not (.call 28 [.var 2, .not (.var 3)]))) [.ret (.lit (.bl false))] [],
    .ife (.or (.not (.call 28 [.var 2, .var 3])) (.not (.call 30 [.var 2, .var 3]))) [.ret (.lit (.bl false))] []],
  .ret (.lit (.bl true))]⟩
def fns : List Ev.Fd := [f0, f1, f2, f3, f4, f5, f6, f7, f8, f9, f10, f11, f12, f13, f14, f15, f16, f17, f18, f19, f20, f21, f22, f23, f24, f25, f26, f27, f28, f29, f30, f31]
def body : List Stmt := R.prog.main.body
def dOf (i : Nat) : He.FnD := match body[i]? with
  | some (.FunctionDef n a b _ _ _ sc _ _ _) => ⟨(n, none), n, n, a, b, sc⟩
  | _ => ⟨("", none), "", "", ⟨[], [], none, [], [], none, []⟩, [], ⟨.function, [], false, false, []⟩⟩
def iOf (i : Nat) (qual : Str) : He.FnD := match body[i]? with
  | some (.ClassDef c _ _ [.FunctionDef n a b _ _ _ sc _ _ _] _ _ _ _ _ _ _) => ⟨(c, some n), n, qual, a, b, sc⟩
  | _ => ⟨("", none), "", "", ⟨[], [], none, [], [], none, []⟩, [], ⟨.function, [], false, false, []⟩⟩
def L : EvC.LD where
  fn := [dOf 8, dOf 9, dOf 10, dOf 12, dOf 13, dOf 14, dOf 15, dOf 16, dOf 17, dOf 18, dOf 19, dOf 20, dOf 21, dOf 22, dOf 23, dOf 24, dOf 25, dOf 26, dOf 28, dOf 29, dOf 30, dOf 31, dOf 33, dOf 34, dOf 35, dOf 36, dOf 37, dOf 38, dOf 39, dOf 40, dOf 41, dOf 42]
  N := [["value"], ["value", "size"], ["one", "other"], ["top", "base", "common", "sign"], ["top", "base"], ["value"], ["number"], ["one", "other"], ["one", "other"], ["one", "other"], ["one", "other"], ["one", "other"], ["one", "other", "gap"], ["one", "other"], ["one", "other"], ["one", "other"], ["one", "other"], ["one", "other"], ["script", "k"], ["great"], ["box", "many", "digit", "mixed"], ["box", "items"], ["top", "base", "one", "other", "sign"], ["told", "due", "k", "key"], ["given", "value"], ["box", "way", "top", "base"], ["box", "values"], ["box", "by_name", "turn", "one", "much", "top", "base", "value"], ["box", "by_name", "one", "way", "other", "a", "b", "c", "d", "turn", "dues", "told"], ["call", "one", "other", "due", "e"], ["box", "by_name", "call", "good", "wrong", "more", "first", "top", "base", "values", "due", "e"], ["script", "k", "box", "by_name"]]
  hot := [false, false, false, false, false, false, false, false, false, false, false, false, false, false, false, false, false, false, false, false, false, false, false, true, true, false, false, false, false, false, false, false]
  cl := ["InvalidBase", "InvalidNumber", "InvalidTop", "ZeroNumber", "TimeError"]
  ini := [iOf 2 "InvalidBase.__init__", iOf 3 "InvalidNumber.__init__", iOf 4 "InvalidTop.__init__", iOf 6 "ZeroNumber.__init__"]
  pf := [some 0, some 0, some 0, none]
  fdN := ["given"]
  tab := [[true, false, false, false, true], [false, true, false, false, true], [false, false, true, false, true], [false, false, false, true, true]]
  fns := fns
theorem st : L.stB = true := by decide +kernel
theorem cp : ∀ i fd, L.fns[i]? = some fd → ∃ n, L.comp n i = some fd.body := by
  have key : (List.range L.fns.length).map (L.comp 60) = L.fns.map fun fd => some fd.body := by kernel_rfl
  intro i fd h
  refine ⟨60, ?_⟩
  have hl := (List.getElem?_eq_some_iff.mp h).1
  have e : ((List.range L.fns.length).map (L.comp 60))[i]? = (L.fns.map fun fd => some fd.body)[i]? := by rw [key]
  rw [List.getElem?_map, List.getElem?_map, h, List.getElem?_range hl] at e
  exact Option.some.inj e
def names0 : List PySem.Str := ["TimeError", "InvalidBase", "InvalidNumber", "InvalidTop", "ZeroNumber", "is_integer", "is_tuple", "divisor", "lowest", "fraction", "is_number", "check_number", "check_two", "sum_of", "less_of", "product_of", "share_of", "sign_between", "add", "subtract", "multiply", "divide", "compare", "_law_cell", "_law_box", "_law_take", "_law_pick", "_law_mixed", "_law_low", "_law_same"]
def names1 : List PySem.Str := ["_law_blamed", "_law_drawn", "_law_wrong", "_law_fractions_right", "_law_sums_right", "_law_refused", "_law_refusals_right"]
def names : List PySem.Str := names0 ++ names1
abbrev qv : Program := view R.prog [42]
end K00
set_option linter.all false
set_option maxRecDepth 100000
set_option maxHeartbeats 0
namespace K00
open PySem PySem.W PySem.Calls PyProof.Rows
theorem headrun (w : World) : HandSHeadRun.RunEq R qv (L.hook 5) (L.ob 5) 4000 names w := by
  intro os
  kernel_rfl
end K00
set_option linter.all false
set_option maxRecDepth 100000
set_option maxHeartbeats 4000000
/-! P1: weakest preconditions of the evaluator. -/
namespace Ev
/-- r ends well with Q, or by an exception with X -/
def Wx {α : Type} (r : Rs α) (Q : α → Mem → Prop) (X : Nat → List D → Mem → Prop) : Prop := match r with
  | .ok a m => Q a m
  | .exc c fs m => X c fs m
  | .stuck => False
def WS (r : RS) (Q : Out → Mem → Prop) (X : Nat → List D → Lc → Mem → Prop) : Prop := match r with
  | .ok o m => Q o m
  | .exc c fs δ m => X c fs δ m
  | .stuck => False
section
variable {α β : Type} {Q : α → Mem → Prop} {X : Nat → List D → Mem → Prop} {m : Mem}
@[simp] theorem Wx_ok (a : α) : Wx (.ok a m) Q X = Q a m := rfl
@[simp] theorem Wx_exc (c : Nat) (fs : List D) : Wx (.exc c fs m) Q X = X c fs m := rfl
@[simp] theorem Wx_stuck : Wx .stuck Q X = False := rfl
@[simp] theorem Wx_bind (r : Rs β) (f : β → Mem → Rs α) : Wx (r.bind f) Q X = Wx r (fun b m => Wx (f b m) Q X) X := by cases r <;> rfl
@[simp] theorem WS_ok (o : Out) {Q : Out → Mem → Prop} {X : Nat → List D → Lc → Mem → Prop} : WS (.ok o m) Q X = Q o m := rfl
@[simp] theorem WS_exc (c : Nat) (fs : List D) (δ : Lc) {Q : Out → Mem → Prop} {X : Nat → List D → Lc → Mem → Prop} : WS (.exc c fs δ m) Q X = X c fs δ m := rfl
@[simp] theorem WS_stuck {Q : Out → Mem → Prop} {X : Nat → List D → Lc → Mem → Prop} : WS .stuck Q X = False := rfl
@[simp] theorem WS_of (r : Rs α) (δ : Lc) (f : α → Mem → RS) {Q : Out → Mem → Prop} {X : Nat → List D → Lc → Mem → Prop} : WS (RS.of r δ f) Q X = Wx r (fun a m => WS (f a m) Q X) (fun c fs m => X c fs δ m) := by cases r <;> rfl
/-- behind a statement -/
def thenQ (Q : Out → Mem → Prop) (f : Lc → Mem → Prop) : Out → Mem → Prop
  | .next δ, m => f δ m
  | o, m => Q o m
@[simp] theorem thenQ_next (Q : Out → Mem → Prop) (f : Lc → Mem → Prop) (δ : Lc) : thenQ Q f (.next δ) m = f δ m := rfl
@[simp] theorem thenQ_ret (Q : Out → Mem → Prop) (f : Lc → Mem → Prop) (d : D) : thenQ Q f (.ret d) m = Q (.ret d) m := rfl
@[simp] theorem thenQ_brk (Q : Out → Mem → Prop) (f : Lc → Mem → Prop) (δ : Lc) : thenQ Q f (.brk δ) m = Q (.brk δ) m := rfl
@[simp] theorem thenQ_cont (Q : Out → Mem → Prop) (f : Lc → Mem → Prop) (δ : Lc) : thenQ Q f (.cont δ) m = Q (.cont δ) m := rfl
@[simp] theorem WS_then (r : RS) (f : Lc → Mem → RS) {Q : Out → Mem → Prop} {X : Nat → List D → Lc → Mem → Prop} : WS (r.then f) Q X = WS r (thenQ Q fun δ m => WS (f δ m) Q X) X := by
  cases r with
  | ok o m => cases o <;> rfl
  | exc c fs δ m => rfl
  | stuck => rfl
/-- behind a body -/
def retQ (Q : D → Mem → Prop) : Out → Mem → Prop
  | .next _, m => Q .non m
  | .ret d, m => Q d m
  | _, _ => False
@[simp] theorem retQ_next (Q : D → Mem → Prop) (δ : Lc) : retQ Q (.next δ) m = Q .non m := rfl
@[simp] theorem retQ_ret (Q : D → Mem → Prop) (d : D) : retQ Q (.ret d) m = Q d m := rfl
theorem Wx_toRet (r : RS) {Q : D → Mem → Prop} : Wx r.toRet Q X = WS r (retQ Q) (fun c fs _ m => X c fs m) := by
  cases r with
  | ok o m => cases o <;> rfl
  | exc c fs δ m => rfl
  | stuck => rfl
theorem Wx.imp {r : Rs α} {Q' : α → Mem → Prop} {X' : Nat → List D → Mem → Prop} (h : Wx r Q X) (q : ∀ a m, Q a m → Q' a m) (x : ∀ c fs m, X c fs m → X' c fs m) : Wx r Q' X' := by
  cases r with
  | ok a m => exact q a m h
  | exc c fs m => exact x c fs m h
  | stuck => exact h
theorem WS.imp {r : RS} {Q Q' : Out → Mem → Prop} {X X' : Nat → List D → Lc → Mem → Prop} (h : WS r Q X) (q : ∀ a m, Q a m → Q' a m) (x : ∀ c fs δ m, X c fs δ m → X' c fs δ m) : WS r Q' X' := by
  cases r with
  | ok a m => exact q a m h
  | exc c fs δ m => exact x c fs δ m h
  | stuck => exact h
end
/-- no exception -/
abbrev NX : Nat → List D → Mem → Prop := fun _ _ _ => False
/-- a call that ends well ends so under any wish of exceptions -/
theorem Wx.nx {α : Type} {r : Rs α} {Q Q' : α → Mem → Prop} {X' : Nat → List D → Mem → Prop} (h : Wx r Q NX) (q : ∀ a m, Q a m → Q' a m) : Wx r Q' X' := h.imp q fun _ _ _ z => z.elim
/-- a def of the program is called -/
theorem call_f {P : Prog} {k i : Nat} {fd : Fd} {xs : List D} {m : Mem} {Q : D → Mem → Prop} {X : Nat → List D → Mem → Prop} (h : P.fns[i]? = some fd) (hl : xs.length = fd.np)
    (q : WS (evSs ⟨run P k, P.sub, P.fld⟩ none fd.body (start fd xs) m) (retQ Q) (fun c fs _ m => X c fs m)) : Wx (run P (k + 1) i xs m) Q X := by
  have e : run P (k + 1) i xs m = (evSs ⟨run P k, P.sub, P.fld⟩ none fd.body (start fd xs) m).toRet := by
    show (match P.fns[i]? with
      | some fd => if xs.length = fd.np then (evSs ⟨run P k, P.sub, P.fld⟩ none fd.body (start fd xs) m).toRet else .stuck
      | none => .stuck) = _
    rw [h]
    simp only
    rw [if_pos hl]
  rw [e, Wx_toRet]
  exact q
/-! ### the turns -/
theorem WS_turn {r : RS} {k : Lc → Mem → RS} {Q : Out → Mem → Prop} {X : Nat → List D → Lc → Mem → Prop} :
    WS (turnF r k) Q X = WS r (fun o m => match o with
      | .next δ => WS (k δ m) Q X
      | .cont δ => WS (k δ m) Q X
      | .brk δ => Q (.next δ) m
      | .ret d => Q (.ret d) m) X := by
  cases r with
  | ok o m => cases o <;> rfl
  | exc c fs δ m => rfl
  | stuck => rfl
/-- a while whose turns are counted by v -/
theorem while_ok {c : Lc → Mem → Rs Bool} {b : Lc → Mem → RS} {Q : Out → Mem → Prop} {X : Nat → List D → Lc → Mem → Prop} (I : Nat → Lc → Mem → Prop)
    (step : ∀ v δ m, I v δ m → Wx (c δ m) (fun t m1 => match t with
      | false => Q (.next δ) m1
      | true => WS (b δ m1) (fun o m2 => match o with
        | .next δ' => ∃ v', v' < v ∧ I v' δ' m2
        | .cont δ' => ∃ v', v' < v ∧ I v' δ' m2
        | .brk δ' => Q (.next δ') m2
        | .ret d => Q (.ret d) m2) X) (fun c fs m => X c fs δ m)) : ∀ n v δ m, v < n → I v δ m → WS (whN c b n δ m) Q X
  | 0, v, δ, m, h, _ => absurd h (Nat.not_lt_zero v)
  | n + 1, v, δ, m, h, i => by
    show WS (RS.of (c δ m) δ fun t m1 => match t with
      | false => .ok (.next δ) m1
      | true => turnF (b δ m1) fun δ' m' => whN c b n δ' m') Q X
    rw [WS_of]
    refine (step v δ m i).imp (fun t m1 q => ?_) (fun _ _ _ z => z)
    cases t with
    | false => exact q
    | true =>
      show WS (turnF (b δ m1) fun δ' m' => whN c b n δ' m') Q X
      rw [WS_turn]
      refine WS.imp q (fun o m2 q2 => ?_) (fun _ _ _ _ z => z)
      cases o with
      | next δ' => obtain ⟨v', hv, i'⟩ := q2; exact while_ok I step n v' δ' m2 (by omega) i'
      | cont δ' => obtain ⟨v', hv, i'⟩ := q2; exact while_ok I step n v' δ' m2 (by omega) i'
      | brk δ' => exact q2
      | ret d => exact q2
/-- a for over items that stand -/
theorem for_ok {b : D → Lc → Mem → RS} {Q : Out → Mem → Prop} {X : Nat → List D → Lc → Mem → Prop} (I : List D → Lc → Mem → Prop)
    (step : ∀ d ds δ m, I (d :: ds) δ m → WS (b d δ m) (fun o m2 => match o with
        | .next δ' => I ds δ' m2
        | .cont δ' => I ds δ' m2
        | .brk δ' => Q (.next δ') m2
        | .ret d => Q (.ret d) m2) X) (fin : ∀ δ m, I [] δ m → Q (.next δ) m) : ∀ ds δ m, I ds δ m → WS (forC b ds δ m) Q X
  | [], δ, m, i => fin δ m i
  | d :: ds, δ, m, i => by
    show WS (turnF (b d δ m) fun δ' m' => forC b ds δ' m') Q X
    rw [WS_turn]
    refine WS.imp (step d ds δ m i) (fun o m2 q2 => ?_) (fun _ _ _ _ z => z)
    cases o with
    | next δ' => exact for_ok I step fin ds δ' m2 q2
    | cont δ' => exact for_ok I step fin ds δ' m2 q2
    | brk δ' => exact q2
    | ret d => exact q2
/-! ### the evaluator's equations -/
def negV (x : D) (m : Mem) : Rs D := match x with
  | .int i => .ok (.int (-i)) m
  | _ => .stuck
@[simp] theorem evE_var {g : Cfg} {cur : Cur} {δ : Lc} {m : Mem} {i : Nat} : evE g cur δ (.var i) m = (match δ[i]? with | some (some d) => .ok d m | _ => .stuck) := rfl
@[simp] theorem evE_lit {g : Cfg} {cur : Cur} {δ : Lc} {m : Mem} {d : D} : evE g cur δ (.lit d) m = .ok d m := rfl
@[simp] theorem evE_tup {g : Cfg} {cur : Cur} {δ : Lc} {m : Mem} {es : List E} : evE g cur δ (.tup es) m = (evEs g cur δ es m).bind fun xs m1 => .ok (.tup xs) m1 := rfl
@[simp] theorem evE_lst {g : Cfg} {cur : Cur} {δ : Lc} {m : Mem} {es : List E} : evE g cur δ (.lst es) m = (evEs g cur δ es m).bind fun xs m1 => newLst xs m1 := rfl
@[simp] theorem evE_dct0 {g : Cfg} {cur : Cur} {δ : Lc} {m : Mem}  : evE g cur δ (.dct0) m = .ok (.obj m.length) (m ++ [.dct []]) := rfl
@[simp] theorem evE_op2 {g : Cfg} {cur : Cur} {δ : Lc} {m : Mem} {o : Op2} {a b : E} : evE g cur δ (.op2 o a b) m = (evE g cur δ a m).bind fun x m1 => (evE g cur δ b m1).bind fun y m2 => op2 o x y m2 := rfl
@[simp] theorem evE_neg {g : Cfg} {cur : Cur} {δ : Lc} {m : Mem} {a : E} : evE g cur δ (.neg a) m = (evE g cur δ a m).bind fun x m1 => negV x m1 := rfl
@[simp] theorem evE_not {g : Cfg} {cur : Cur} {δ : Lc} {m : Mem} {a : E} : evE g cur δ (.not a) m = (evE g cur δ a m).bind fun x m1 => (tru x m1).bind fun t m2 => .ok (.bl (!t)) m2 := rfl
@[simp] theorem evE_cmp {g : Cfg} {cur : Cur} {δ : Lc} {m : Mem} {c : Cm} {a b : E} : evE g cur δ (.cmp c a b) m = (evE g cur δ a m).bind fun x m1 => (evE g cur δ b m1).bind fun y m2 => cmpV c x y m2 := rfl
@[simp] theorem evE_and {g : Cfg} {cur : Cur} {δ : Lc} {m : Mem} {a b : E} : evE g cur δ (.and a b) m = (evE g cur δ a m).bind fun x m1 => (tru x m1).bind fun t m2 => if t = true then evE g cur δ b m2 else .ok x m2 := by
  show (evE g cur δ a m).bind _ = _
  congr 1; funext x m1; congr 1; funext t m2; cases t <;> rfl
@[simp] theorem evE_or {g : Cfg} {cur : Cur} {δ : Lc} {m : Mem} {a b : E} : evE g cur δ (.or a b) m = (evE g cur δ a m).bind fun x m1 => (tru x m1).bind fun t m2 => if t = true then .ok x m2 else evE g cur δ b m2 := by
  show (evE g cur δ a m).bind _ = _
  congr 1; funext x m1; congr 1; funext t m2; cases t <;> rfl
@[simp] theorem evE_ife {g : Cfg} {cur : Cur} {δ : Lc} {m : Mem} {c a b : E} : evE g cur δ (.ife c a b) m = (evE g cur δ c m).bind fun x m1 => (tru x m1).bind fun t m2 => if t = true then evE g cur δ a m2 else evE g cur δ b m2 := by
  show (evE g cur δ c m).bind _ = _
  congr 1; funext x m1; congr 1; funext t m2; cases t <;> rfl
@[simp] theorem evE_call {g : Cfg} {cur : Cur} {δ : Lc} {m : Mem} {f : Nat} {as : List E} : evE g cur δ (.call f as) m = (evEs g cur δ as m).bind fun xs m1 => g.call f xs m1 := rfl
@[simp] theorem evE_callk {g : Cfg} {cur : Cur} {δ : Lc} {m : Mem} {f : Nat} {ps : List Nat} {as : List E} : evE g cur δ (.callk f ps as) m = (evEs g cur δ as m).bind fun xs m1 => (match pick ps xs with | some ys => g.call f ys m1 | none => .stuck) := rfl
@[simp] theorem evE_callv {g : Cfg} {cur : Cur} {δ : Lc} {m : Mem} {f : E} {as : List E} : evE g cur δ (.callv f as) m = (evE g cur δ f m).bind fun x m1 => (match x with | .fn i => (evEs g cur δ as m1).bind fun xs m2 => g.call i xs m2 | _ => .stuck) := rfl
@[simp] theorem evE_blt {g : Cfg} {cur : Cur} {δ : Lc} {m : Mem} {b : Blt} {as : List E} : evE g cur δ (.blt b as) m = (evEs g cur δ as m).bind fun xs m1 => bltV b xs m1 := rfl
@[simp] theorem evE_isi {g : Cfg} {cur : Cur} {δ : Lc} {m : Mem} {ts : List Ty} {a : E} : evE g cur δ (.isi ts a) m = (evE g cur δ a m).bind fun x m1 => ofB (tysIs ts x m1) m1 := rfl
@[simp] theorem evE_idx {g : Cfg} {cur : Cur} {δ : Lc} {m : Mem} {a i : E} : evE g cur δ (.idx a i) m = (evE g cur δ a m).bind fun x m1 => (evE g cur δ i m1).bind fun y m2 => idxV x y m2 := rfl
@[simp] theorem evE_slc {g : Cfg} {cur : Cur} {δ : Lc} {m : Mem} {a : E} {lo hi : Option E} : evE g cur δ (.slc a lo hi) m = (evE g cur δ a m).bind fun x m1 => (evO g cur δ lo m1).bind fun l m2 => (evO g cur δ hi m2).bind fun h m3 => slcV x l h m3 := rfl
@[simp] theorem evE_mth {g : Cfg} {cur : Cur} {δ : Lc} {m : Mem} {t : Mth} {o : E} {as : List E} : evE g cur δ (.mth t o as) m = (evE g cur δ o m).bind fun x m1 => if isLst x m1 = true then (evEs g cur δ as m1).bind fun xs m2 => mthV t x xs m2 else .stuck := by
  show (evE g cur δ o m).bind _ = _
  congr 1; funext x m1; cases h : isLst x m1 <;> simp
@[simp] theorem evE_cf {g : Cfg} {cur : Cur} {δ : Lc} {m : Mem} {f : Nat} : evE g cur δ (.cf f) m = (match cfV g cur f with | some d => .ok d m | none => .stuck) := rfl
@[simp] theorem evE_comp {g : Cfg} {cur : Cur} {δ : Lc} {m : Mem} {own : List Nat} {elt : E} {t : Tg} {it : It} {cond : Option E} : evE g cur δ (.comp own elt t it cond) m = (evIt g cur δ it m).bind fun w m1 => (walkC (fun d m => stThen (stTg t d (wipeD δ own)) .stuck fun δ' => iteC (evC g cur δ' cond m) (fun m1 => evE g cur δ' elt m1)) w m1).bind fun ys m2 => newLst ys m2 := rfl
@[simp] theorem evEs_nil {g : Cfg} {cur : Cur} {δ : Lc} {m : Mem}  : evEs g cur δ [] m = .ok [] m := rfl
@[simp] theorem evEs_cons {g : Cfg} {cur : Cur} {δ : Lc} {m : Mem} {e : E} {es : List E} : evEs g cur δ (e :: es) m = (evE g cur δ e m).bind fun x m1 => (evEs g cur δ es m1).bind fun xs m2 => .ok (x :: xs) m2 := rfl
@[simp] theorem evO_none {g : Cfg} {cur : Cur} {δ : Lc} {m : Mem}  : evO g cur δ none m = .ok none m := rfl
@[simp] theorem evO_some {g : Cfg} {cur : Cur} {δ : Lc} {m : Mem} {e : E} : evO g cur δ (some e) m = (evE g cur δ e m).bind fun x m1 => (match x with | .int i => .ok (some i) m1 | _ => .stuck) := rfl
@[simp] theorem evC_none {g : Cfg} {cur : Cur} {δ : Lc} {m : Mem}  : evC g cur δ none m = .ok true m := rfl
@[simp] theorem evC_some {g : Cfg} {cur : Cur} {δ : Lc} {m : Mem} {e : E} : evC g cur δ (some e) m = (evE g cur δ e m).bind fun x m1 => tru x m1 := rfl
@[simp] theorem evIt_e {g : Cfg} {cur : Cur} {δ : Lc} {m : Mem} {a : E} : evIt g cur δ (.e a) m = (evE g cur δ a m).bind fun x m1 => walkOf x m1 := rfl
@[simp] theorem evIt_r1 {g : Cfg} {cur : Cur} {δ : Lc} {m : Mem} {a : E} : evIt g cur δ (.r1 a) m = (evE g cur δ a m).bind fun x m1 => r1V x m1 := rfl
@[simp] theorem evIt_r2 {g : Cfg} {cur : Cur} {δ : Lc} {m : Mem} {a b : E} : evIt g cur δ (.r2 a b) m = (evE g cur δ a m).bind fun x m1 => (evE g cur δ b m1).bind fun y m2 => r2V x y m2 := rfl
@[simp] theorem evT_eq {g : Cfg} {cur : Cur} {δ : Lc} {m : Mem} {e : E} : evT g cur δ e m = (evE g cur δ e m).bind fun x m1 => tru x m1 := rfl
@[simp] theorem evS_asg {g : Cfg} {cur : Cur} {δ : Lc} {m : Mem} {t : Tg} {e : E} : evS g cur (.asg t e) δ m = RS.of (evE g cur δ e m) δ fun x m1 => stThen (stTg t x δ) .stuck fun δ' => .ok (.next δ') m1 := rfl
@[simp] theorem evS_put {g : Cfg} {cur : Cur} {δ : Lc} {m : Mem} {a i e : E} : evS g cur (.put a i e) δ m = RS.of (evE g cur δ e m) δ fun v m1 => RS.of (evE g cur δ a m1) δ fun x m2 => RS.of (evE g cur δ i m2) δ fun y m3 => (match putV x y v m3 with | some m4 => .ok (.next δ) m4 | none => .stuck) := rfl
@[simp] theorem evS_ex {g : Cfg} {cur : Cur} {δ : Lc} {m : Mem} {e : E} : evS g cur (.ex e) δ m = RS.of (evE g cur δ e m) δ fun _ m1 => .ok (.next δ) m1 := rfl
@[simp] theorem evS_ret {g : Cfg} {cur : Cur} {δ : Lc} {m : Mem} {e : E} : evS g cur (.ret e) δ m = RS.of (evE g cur δ e m) δ fun x m1 => .ok (.ret x) m1 := rfl
@[simp] theorem evS_retN {g : Cfg} {cur : Cur} {δ : Lc} {m : Mem}  : evS g cur (.retN) δ m = .ok (.ret .non) m := rfl
@[simp] theorem evS_pass {g : Cfg} {cur : Cur} {δ : Lc} {m : Mem}  : evS g cur (.pass) δ m = .ok (.next δ) m := rfl
@[simp] theorem evS_brk {g : Cfg} {cur : Cur} {δ : Lc} {m : Mem}  : evS g cur (.brk) δ m = .ok (.brk δ) m := rfl
@[simp] theorem evS_cont {g : Cfg} {cur : Cur} {δ : Lc} {m : Mem}  : evS g cur (.cont) δ m = .ok (.cont δ) m := rfl
@[simp] theorem evS_ife {g : Cfg} {cur : Cur} {δ : Lc} {m : Mem} {c : E} {a b : List S} : evS g cur (.ife c a b) δ m = RS.of (evT g cur δ c m) δ fun t m1 => if t = true then evSs g cur a δ m1 else evSs g cur b δ m1 := by
  show RS.of (evT g cur δ c m) δ _ = _
  congr 1; funext t m1; cases t <;> rfl
@[simp] theorem evS_wh {g : Cfg} {cur : Cur} {δ : Lc} {m : Mem} {c : E} {b : List S} : evS g cur (.wh c b) δ m = whN (fun δ m => evT g cur δ c m) (fun δ m => evSs g cur b δ m) whFuel δ m := rfl
@[simp] theorem evS_for {g : Cfg} {cur : Cur} {δ : Lc} {m : Mem} {t : Tg} {it : It} {b : List S} : evS g cur (.for t it b) δ m = RS.of (evIt g cur δ it m) δ fun w m1 => walkF (fun d δ m => stThen (stTg t d δ) .stuck fun δ' => evSs g cur b δ' m) w δ m1 := rfl
@[simp] theorem evS_rais {g : Cfg} {cur : Cur} {δ : Lc} {m : Mem} {c : Nat} {es : List E} : evS g cur (.rais c es) δ m = RS.of (evEs g cur δ es m) δ fun xs m1 => .exc c xs δ m1 := rfl
@[simp] theorem evS_tr {g : Cfg} {cur : Cur} {δ : Lc} {m : Mem} {b : List S} {hs : List (Nat × Option Nat × List S)} : evS g cur (.tr b hs) δ m = (match evSs g cur b δ m with | .exc c fs δ' m' => evHs g c fs hs δ' m' | r => r) := rfl
@[simp] theorem evSs_nil {g : Cfg} {cur : Cur} {δ : Lc} {m : Mem}  : evSs g cur [] δ m = .ok (.next δ) m := rfl
@[simp] theorem evSs_cons {g : Cfg} {cur : Cur} {δ : Lc} {m : Mem} {s : S} {ss : List S} : evSs g cur (s :: ss) δ m = (evS g cur s δ m).then fun δ' m' => evSs g cur ss δ' m' := rfl
@[simp] theorem Wx_ite {α : Type} {p : Prop} [Decidable p] {a b : Rs α} {Q : α → Mem → Prop} {X : Nat → List D → Mem → Prop} : Wx (if p then a else b) Q X = if p then Wx a Q X else Wx b Q X := by split <;> rfl
@[simp] theorem WS_ite {p : Prop} [Decidable p] {a b : RS} {Q : Out → Mem → Prop} {X : Nat → List D → Lc → Mem → Prop} : WS (if p then a else b) Q X = if p then WS a Q X else WS b Q X := by split <;> rfl
@[simp] theorem stThen_some {α : Type} (δ : Lc) (s : α) (k : Lc → α) : stThen (some δ) s k = k δ := rfl
@[simp] theorem stTg_nm {i : Nat} {d : D} {δ : Lc} : stTg (.nm i) d δ = if i < δ.length then some (δ.set i (some d)) else none := rfl
@[simp] theorem stTg_tup {ts : List Tg} {ds : List D} {δ : Lc} : stTg (.tup ts) (.tup ds) δ = stTgs ts ds δ := rfl
@[simp] theorem stTgs_nil {δ : Lc} : stTgs [] [] δ = some δ := rfl
@[simp] theorem stTgs_cons {t : Tg} {ts : List Tg} {d : D} {ds : List D} {δ : Lc} : stTgs (t :: ts) (d :: ds) δ = (match stTg t d δ with | some δ' => stTgs ts ds δ' | none => none) := rfl
@[simp] theorem negV_int {i : Int} {m : Mem} : negV (.int i) m = .ok (.int (-i)) m := rfl
@[simp] theorem tru_bl {b : Bool} {m : Mem} : tru (.bl b) m = .ok b m := rfl
@[simp] theorem tru_int {i : Int} {m : Mem} : tru (.int i) m = .ok (i != 0) m := rfl
@[simp] theorem ofB_some {b : Bool} {m : Mem} : ofB (some b) m = .ok (.bl b) m := rfl
end Ev
set_option linter.all false
set_option maxRecDepth 100000
set_option maxHeartbeats 4000000
set_option exponentiation.threshold 100000
/-! P2: defs that many laws share. -/
namespace Ev
open PySem
/-! ### is_integer -/
def isIntFd : Fd := ⟨1, 1, [.ret (.and (.isi [.int] (.var 0)) (.not (.isi [.bool] (.var 0))))]⟩
def isIntD : D → Bool
  | .int _ => true
  | _ => false
/-- a value that isinstance can look at -/
def okD (d : D) (m : Mem) : Bool := match d with
  | .obj a => decide (a < m.length)
  | .fn _ => false
  | _ => true
theorem tysIs1 {t : Ty} {d : D} {m : Mem} (h : okD d m = true) : ∃ b, tyIs t d m = some b ∧ tysIs [t] d m = some b := by
  have key : ∀ t', ∃ b, tyIs t' d m = some b := fun t' => by
    cases d with
    | obj a =>
      have hl : a < m.length := of_decide_eq_true h
      simp only [tyIs, List.getElem?_eq_getElem hl]
      cases m[a] <;> exact ⟨_, rfl⟩
    | fn i => cases h
    | _ => exact ⟨_, rfl⟩
  obtain ⟨b, e⟩ := key t
  obtain ⟨b0, e0⟩ := key .int
  refine ⟨b, e, ?_⟩
  unfold tysIs
  rw [e0]
  simp only [List.any_cons, List.any_nil, Bool.or_false]
  rw [e]
  cases b <;> rfl
theorem isInt_ok {P : Prog} {k i : Nat} {m : Mem} {Q : D → Mem → Prop} {X : Nat → List D → Mem → Prop} (hi : P.fns[i]? = some isIntFd) {d : D} (hd : okD d m = true) (q : Q (.bl (isIntD d)) m) : Wx (run P (k + 1) i [d] m) Q X := by
  refine call_f hi rfl ?_
  obtain ⟨b, e1, e2⟩ := tysIs1 (t := .int) hd
  obtain ⟨c, e3, e4⟩ := tysIs1 (t := .bool) hd
  have hz : isIntD d = (b && !c) := by
    cases d with
    | obj a =>
      have hl : a < m.length := of_decide_eq_true hd
      simp only [tyIs, List.getElem?_eq_getElem hl] at e1 e3
      cases hm : m[a] <;> (rw [hm] at e1 e3; cases e1; cases e3; rfl)
    | fn i => cases hd
    | _ => cases e1; cases e3; rfl
  rw [hz] at q
  simp [isIntFd, start, e2, e4]
  cases b
  · simpa using q
  · simpa using q
/-! ### divisor -/
def divFd : Fd := ⟨2, 2, [
  .wh (.cmp .ne (.var 1) (.lit (.int 0))) [.asg (.tup [.nm 0, .nm 1]) (.tup [.var 1, .op2 .mod (.var 0) (.var 1)])],
  .ret (.var 0)]⟩
theorem shaped_int (i : Int) : SeqAt.shaped (.int i) = true := rfl
theorem eqV_int {a b : Int} {m : Mem} : eqV (.int a) (.int b) m = some (decide (a = b)) := by
  show eqW (.int a) (.int b) m = _
  show (if SeqAt.shaped (.int a) = true ∧ SeqAt.shaped (.int b) = true then some (PyData.eqv (.int a) (.int b)) else none) = _
  rw [if_pos ⟨shaped_int a, shaped_int b⟩]
  show some (a == b) = some (decide (a = b))
  congr 1
@[simp] theorem cmp_eq_int {a b : Int} {m : Mem} : cmpV .eq (.int a) (.int b) m = .ok (.bl (decide (a = b))) m := by
  show ofB (eqV (.int a) (.int b) m) m = _
  rw [eqV_int]; rfl
@[simp] theorem cmp_ne_int {a b : Int} {m : Mem} : cmpV .ne (.int a) (.int b) m = .ok (.bl (decide (a ≠ b))) m := by
  show ofB ((eqV (.int a) (.int b) m).map (!·)) m = _
  rw [eqV_int]
  by_cases h : a = b <;> simp [h]
@[simp] theorem cmp_lt_int {a b : Int} {m : Mem} : cmpV .lt (.int a) (.int b) m = .ok (.bl (decide (a < b))) m := rfl
@[simp] theorem cmp_le_int {a b : Int} {m : Mem} : cmpV .le (.int a) (.int b) m = .ok (.bl (decide (a ≤ b))) m := rfl
@[simp] theorem cmp_gt_int {a b : Int} {m : Mem} : cmpV .gt (.int a) (.int b) m = .ok (.bl (decide (b < a))) m := rfl
@[simp] theorem cmp_ge_int {a b : Int} {m : Mem} : cmpV .ge (.int a) (.int b) m = .ok (.bl (decide (b ≤ a))) m := rfl
@[simp] theorem op_add {a b : Int} {m : Mem} : op2 .add (.int a) (.int b) m = .ok (.int (a + b)) m := rfl
@[simp] theorem op_sub {a b : Int} {m : Mem} : op2 .sub (.int a) (.int b) m = .ok (.int (a - b)) m := rfl
theorem Wx_mod {a b : Int} {m : Mem} {Q : D → Mem → Prop} {X : Nat → List D → Mem → Prop} (h : 0 < b) (q : Q (.int (a % b)) m) : Wx (op2 .mod (.int a) (.int b) m) Q X := by
  show Wx (if 0 < b then _ else _) Q X
  rw [if_pos h]; exact q
theorem Wx_fdiv {a b : Int} {m : Mem} {Q : D → Mem → Prop} {X : Nat → List D → Mem → Prop} (h : 0 < b) (h2 : b.natAbs.log2 < 9000) (q : Q (.int (a / b)) m) : Wx (op2 .fdiv (.int a) (.int b) m) Q X := by
  show Wx (if 0 < b ∧ b.natAbs.log2 < 9000 then _ else _) Q X
  rw [if_pos ⟨h, h2⟩]; exact q
theorem Wx_mul {a b : Int} {m : Mem} {Q : D → Mem → Prop} {X : Nat → List D → Mem → Prop} (h : mulOk a b = true) (q : Q (.int (a * b)) m) : Wx (op2 .mul (.int a) (.int b) m) Q X := by
  show Wx (if mulOk a b = true then _ else _) Q X
  rw [if_pos h]; exact q
theorem Wx_pow {a b : Int} {m : Mem} {Q : D → Mem → Prop} {X : Nat → List D → Mem → Prop} (h : 0 ≤ b ∧ b ≤ 1000000 ∧ a.natAbs < 2 ^ 64) (q : Q (.int (a ^ b.toNat)) m) : Wx (op2 .pow (.int a) (.int b) m) Q X := by
  show Wx (if 0 ≤ b ∧ b ≤ 1000000 ∧ a.natAbs < 2 ^ 64 then _ else _) Q X
  rw [if_pos h]; exact q
theorem mulOk_left {a b : Int} (h : a.natAbs < 2 ^ 64) : mulOk a b = true := by
  unfold mulOk; simp [h]
theorem mulOk_right {a b : Int} (h : b.natAbs < 2 ^ 64) : mulOk a b = true := by
  unfold mulOk; simp [h]
theorem log2_lt {n k : Nat} (h : n < 2 ^ k) (hk : 0 < k) : n.log2 < k := by
  by_cases h0 : n = 0
  · subst h0; simpa using hk
  · exact (Nat.log2_lt h0).mpr h
theorem mulOk_big {a b : Int} (h : a.natAbs < 2 ^ 60000) (h2 : b.natAbs < 2 ^ 60000) : mulOk a b = true := by
  unfold mulOk
  have h1 := log2_lt h (by omega)
  have h3 := log2_lt h2 (by omega)
  simp [h1, h3]
@[simp] theorem blt_abs {i : Int} {m : Mem} : bltV .abs [.int i] m = .ok (.int i.natAbs) m := by
  show Rs.ok (D.int (if i < 0 then -i else i)) m = _
  congr 2
  split <;> omega
@[simp] theorem blt_int {i : Int} {m : Mem} : bltV .int [.int i] m = .ok (.int i) m := rfl
@[simp] theorem blt_intb {b : Bool} {m : Mem} : bltV .int [.bl b] m = .ok (.int (if b then 1 else 0)) m := rfl
theorem gcd_meas {a b v : Nat} (hb : b ≠ 0) (h : (b < a ∧ a * b < 2 ^ v) ∨ (a ≤ b ∧ 1 ≤ v ∧ a * b < 2 ^ (v - 1))) : ∃ v', v' < v ∧ (a % b < b ∧ b * (a % b) < 2 ^ v') := by
  have hr : a % b < b := Nat.mod_lt _ (Nat.pos_of_ne_zero hb)
  have hd := Nat.div_add_mod a b
  rcases h with ⟨h1, h2⟩ | ⟨h1, h2, h3⟩
  · have hq : 1 ≤ a / b := (Nat.le_div_iff_mul_le (Nat.pos_of_ne_zero hb)).mpr (by omega)
    have hab : b + a % b ≤ a := by
      have : b * 1 ≤ b * (a / b) := Nat.mul_le_mul_left _ hq
      omega
    have h4 : 2 * (b * (a % b)) ≤ a * b := by
      have : (2 * (a % b)) * b ≤ a * b := Nat.mul_le_mul_right _ (by omega)
      calc 2 * (b * (a % b)) = (2 * (a % b)) * b := by rw [Nat.mul_comm b, Nat.mul_assoc]
        _ ≤ a * b := this
    cases v with
    | zero =>
      have : a * b ≥ 1 := Nat.mul_pos (by omega) (Nat.pos_of_ne_zero hb)
      simp at h2; omega
    | succ v =>
      refine ⟨v, Nat.lt_succ_self v, hr, ?_⟩
      rw [Nat.pow_succ] at h2
      omega
  · refine ⟨v - 1, by omega, hr, ?_⟩
    by_cases e : a = b
    · subst e
      rw [Nat.mod_self, Nat.mul_zero]
      exact Nat.pow_pos (by omega)
    · have : a % b = a := Nat.mod_eq_of_lt (by omega)
      rw [this, Nat.mul_comm]
      exact h3
theorem div_loop {g : Cfg} {cur : Cur} {m : Mem} {Q : Out → Mem → Prop} {X : Nat → List D → Lc → Mem → Prop} {a b : Nat} (ha : a < 2 ^ 2000) (hb : b < 2 ^ 2000) (q : Q (.next [some (.int (Nat.gcd a b : Nat)), some (.int 0)]) m) :
    WS (evS g cur (.wh (.cmp .ne (.var 1) (.lit (.int 0))) [.asg (.tup [.nm 0, .nm 1]) (.tup [.var 1, .op2 .mod (.var 0) (.var 1)])]) [some (.int (a : Int)), some (.int (b : Int))] m) Q X := by
  rw [evS_wh]
  refine while_ok (fun v δ m' => m' = m ∧ ∃ a' b' : Nat, δ = [some (.int (a' : Int)), some (.int (b' : Int))] ∧ Nat.gcd a' b' = Nat.gcd a b ∧ ((b' < a' ∧ a' * b' < 2 ^ v) ∨ (a' ≤ b' ∧ 1 ≤ v ∧ a' * b' < 2 ^ (v - 1))))
    (fun v δ m' hI => ?_) whFuel 4001 _ m (by unfold whFuel; omega) ⟨rfl, a, b, rfl, rfl, ?_⟩
  · obtain ⟨rfl, a', b', rfl, hg, hm⟩ := hI
    by_cases h0 : b' = 0
    · subst h0
      simp only [evT_eq, evE_cmp, evE_var, evE_lit, List.getElem?_cons_succ, List.getElem?_cons_zero, Rs.bind_ok, cmp_ne_int, tru_bl, Wx_bind, Wx_ok, decide_not]
      rw [Nat.gcd_zero_right] at hg
      subst hg
      simpa using q
    · obtain ⟨v', hv, hr, hl⟩ := gcd_meas h0 hm
      have hbz : ¬ ((b' : Int) = 0) := by omega
      simp only [evT_eq, evE_cmp, evE_var, evE_lit, List.getElem?_cons_succ, List.getElem?_cons_zero, Rs.bind_ok, cmp_ne_int, tru_bl, Wx_bind, Wx_ok, decide_not, hbz, decide_false, Bool.not_false]
      simp only [evSs_cons, evSs_nil, evS_asg, evE_tup, evEs_cons, evEs_nil, evE_var, evE_op2, List.getElem?_cons_succ, List.getElem?_cons_zero, Rs.bind_ok, WS_then, WS_of, Wx_bind, Wx_ok]
      refine Wx_mod (by omega) ?_
      simp only [Rs.bind_ok, Wx_bind, Wx_ok, stTg_tup, stTgs_cons, stTgs_nil, stTg_nm, List.length_cons, List.length_nil, List.set_cons_zero, List.set_cons_succ, stThen_some, WS_ok, thenQ_next, if_true, Nat.zero_lt_succ, Nat.lt_succ_self, List.length_set]
      refine ⟨v', hv, trivial, b', a' % b', by simp, ?_, .inl ⟨hr, hl⟩⟩
      rw [← hg, Nat.gcd_comm a' b', Nat.gcd_rec b' a', Nat.gcd_comm]
  · have hab : a * b < 2 ^ 4000 := by
      calc a * b < 2 ^ 2000 * 2 ^ 2000 := Nat.mul_lt_mul'' ha hb
        _ = 2 ^ 4000 := by rw [← Nat.pow_add]
    by_cases h : b < a
    · exact .inl ⟨h, Nat.lt_of_lt_of_le hab (Nat.pow_le_pow_right (by omega) (by omega))⟩
    · exact .inr ⟨by omega, by omega, hab⟩
theorem div_ok {P : Prog} {k i : Nat} {m : Mem} {Q : D → Mem → Prop} {X : Nat → List D → Mem → Prop} (hi : P.fns[i]? = some divFd) {a b : Nat} (ha : a < 2 ^ 2000) (hb : b < 2 ^ 2000) (q : Q (.int (Nat.gcd a b : Nat)) m) : Wx (run P (k + 1) i [.int a, .int b] m) Q X := by
  refine call_f hi rfl ?_
  simp only [divFd, start, List.map_cons, List.map_nil, List.length_cons, List.length_nil, Nat.sub_self, List.replicate_zero, List.append_nil, evSs_cons, WS_then]
  refine div_loop ha hb ?_
  simpa using q
end Ev
set_option linter.all false
set_option maxRecDepth 100000
set_option maxHeartbeats 4000000
set_option exponentiation.threshold 100000
/-! P3: lowest, _law_low, _law_take. -/
namespace Ev
open PySem
/-! ### lowest -/
def sg (b : Int) : Int := if 0 < b then 1 else -1
def gd (t b : Int) : Nat := Nat.gcd t.natAbs b.natAbs
/-- t over b in lowest terms -/
def loN (t b : Int) : Int := sg b * t / (gd t b : Nat)
def loD (t b : Int) : Int := sg b * b / (gd t b : Nat)
def lo (t b : Int) : D := .tup [.int (loN t b), .int (loD t b)]
def lowFd (d : Nat) : Fd := ⟨2, 4, [
  .asg (.nm 2) (.call d [.blt .abs [.var 0], .blt .abs [.var 1]]),
  .asg (.nm 3) (.ife (.cmp .gt (.var 1) (.lit (.int 0))) (.lit (.int 1)) (.neg (.lit (.int 1)))),
  .ret (.tup [.op2 .fdiv (.op2 .mul (.var 3) (.var 0)) (.var 2), .op2 .fdiv (.op2 .mul (.var 3) (.var 1)) (.var 2)])]⟩
theorem gd_pos {t b : Int} (h : b ≠ 0) : 0 < gd t b := Nat.gcd_pos_of_pos_right _ (by omega)
theorem gd_le {t b : Int} (h : b ≠ 0) : gd t b ≤ b.natAbs := Nat.le_of_dvd (by omega) (Nat.gcd_dvd_right _ _)
theorem low_ok {P : Prog} {k i d : Nat} {m : Mem} {Q : D → Mem → Prop} {X : Nat → List D → Mem → Prop} (hi : P.fns[i]? = some (lowFd d)) (hd : P.fns[d]? = some divFd) {t b : Int} (hb : b ≠ 0) (h1 : t.natAbs < 2 ^ 2000) (h2 : b.natAbs < 2 ^ 2000)
    (q : Q (lo t b) m) : Wx (run P (k + 2) i [.int t, .int b] m) Q X := by
  refine call_f hi rfl ?_
  have hg := gd_pos (t := t) hb
  have hl := gd_le (t := t) hb
  have hlog : ((gd t b : Nat) : Int).natAbs.log2 < 9000 := by
    rw [Int.natAbs_natCast]
    exact log2_lt (Nat.lt_of_le_of_lt hl (Nat.lt_trans h2 (Nat.pow_lt_pow_right (by omega) (by omega)))) (by omega)
  simp [lowFd, start]
  refine div_ok hd h1 h2 ?_
  by_cases hp : 0 < b
  · simp [hp]
    refine Wx_mul (mulOk_left (by decide)) (Wx_fdiv (by show (0 : Int) < (gd t b : Nat); omega) hlog ?_)
    refine Wx_mul (mulOk_left (by decide)) (Wx_fdiv (by show (0 : Int) < (gd t b : Nat); omega) hlog ?_)
    have e : sg b = 1 := if_pos hp
    unfold lo loN loD at q
    rw [e] at q
    exact q
  · simp [hp]
    refine Wx_mul (mulOk_left (by decide)) (Wx_fdiv (by show (0 : Int) < (gd t b : Nat); omega) hlog ?_)
    refine Wx_mul (mulOk_left (by decide)) (Wx_fdiv (by show (0 : Int) < (gd t b : Nat); omega) hlog ?_)
    have e : sg b = -1 := if_neg hp
    unfold lo loN loD at q
    rw [e] at q
    exact q
/-! ### _law_take -/
def takeFd : Fd := ⟨2, 4, [
  .ife (.and (.idx (.var 0) (.lit (.int 1))) (.cmp .gt (.idx (.var 0) (.lit (.int 0))) (.lit (.int 0)))) [
    .asg (.nm 2) (.op2 .mod (.blt .int [.idx (.var 0) (.lit (.int 0))]) (.var 1)),
    .put (.var 0) (.lit (.int 0)) (.op2 .fdiv (.idx (.var 0) (.lit (.int 0))) (.var 1)),
    .ret (.var 2)] [],
  .put (.var 0) (.lit (.int 3)) (.op2 .add (.idx (.var 0) (.lit (.int 3))) (.lit (.int 1))),
  .asg (.nm 3) (.op2 .mod (.blt .int [.op2 .pow (.op2 .add (.op2 .add (.idx (.var 0) (.lit (.int 2))) (.op2 .mul (.lit (.int 15487493)) (.idx (.var 0) (.lit (.int 3))))) (.lit (.int 179426105))) (.lit (.int 5))]) (.lit (.int 2147483647))),
  .ret (.op2 .mod (.blt .int [.op2 .fdiv (.op2 .mod (.blt .int [.op2 .pow (.op2 .add (.op2 .mul (.var 3) (.lit (.int 48271))) (.op2 .mul (.lit (.int 104743)) (.idx (.var 0) (.lit (.int 3))))) (.lit (.int 3))]) (.lit (.int 2147483587))) (.lit (.int 64))]) (.var 1))]⟩
/-- the script stands at 0 -/
def Scr (m : Mem) : Prop := ∃ ns : List Int, m[0]? = some (.fro (ns.map D.int))
theorem Scr.set {m : Mem} {b : Nat} {xs : List D} {o : Ob} (h : Scr m) (hb : m[b]? = some (.lst xs)) : Scr (m.set b o) := by
  obtain ⟨ns, e⟩ := h
  refine ⟨ns, ?_⟩
  by_cases z : b = 0
  · subst z; rw [hb] at e; cases e
  · rw [List.getElem?_set_ne z]; exact e
theorem Scr.app {m j : Mem} (h : Scr m) : Scr (m ++ j) := by
  obtain ⟨ns, e⟩ := h
  exact ⟨ns, by rw [List.getElem?_append_left (List.getElem?_eq_some_iff.mp e).1]; exact e⟩
/-- the box at b, c numbers taken of it at most -/
def Box (m : Mem) (b c : Nat) : Prop := ∃ (x0 : Int) (f : Bool) (x2 x3 : Int), m[b]? = some (.lst [.int x0, .bl f, .int x2, .int x3]) ∧ 0 ≤ x2 ∧ x2 < 2 ^ 31 ∧ 0 ≤ x3 ∧ x3 ≤ c ∧ Scr m
/-- what stands is left alone, but at b -/
structure Keep (b : Nat) (m m' : Mem) : Prop where
  le : m.length ≤ m'.length
  at_ : ∀ a, a < m.length → a ≠ b → m'[a]? = m[a]?
theorem Keep.refl {b : Nat} {m : Mem} : Keep b m m := ⟨Nat.le_refl _, fun _ _ _ => rfl⟩
theorem Keep.trans {b : Nat} {m m1 m2 : Mem} (h : Keep b m m1) (h' : Keep b m1 m2) : Keep b m m2 := ⟨Nat.le_trans h.le h'.le, fun a ha hb => (h'.at_ a (Nat.lt_of_lt_of_le ha h.le) hb).trans (h.at_ a ha hb)⟩
theorem Keep.set {b : Nat} {m : Mem} {o : Ob} : Keep b m (m.set b o) := ⟨by simp, fun a ha hb => by rw [List.getElem?_set_ne (Ne.symm hb)]⟩
theorem take_ok {P : Prog} {k i b n c : Nat} {m : Mem} {Q : D → Mem → Prop} {X : Nat → List D → Mem → Prop} (hi : P.fns[i]? = some takeFd) (hB : Box m b c) (hc : c < 1000000) (hn : 0 < n) (hn2 : n < 2 ^ 31)
    (q : ∀ (d : Nat) m', d < n → Box m' b (c + 1) → Keep b m m' → m'.length = m.length → Q (.int (d : Int)) m') : Wx (run P (k + 1) i [.obj b, .int (n : Int)] m) Q X := by
  refine call_f hi rfl ?_
  obtain ⟨x0, f, x2, x3, hm, h1, h2, h3, h4, hS⟩ := hB
  have hbl : b < m.length := (List.getElem?_eq_some_iff.mp hm).1
  have i0 : ∀ {m : Mem} {x0 : Int} {f : Bool} {x2 x3 : Int}, m[b]? = some (.lst [.int x0, .bl f, .int x2, .int x3]) → idxV (.obj b) (.int 0) m = .ok (.int x0) m ∧ idxV (.obj b) (.int 1) m = .ok (.bl f) m ∧ idxV (.obj b) (.int 2) m = .ok (.int x2) m ∧ idxV (.obj b) (.int 3) m = .ok (.int x3) m := by
    intro m x0 f x2 x3 hm
    refine ⟨?_, ?_, ?_, ?_⟩ <;> simp [idxV, seqOf, hm, atIx]
  have fin : ∀ (y : Int) m', Box m' b (c + 1) → Keep b m m' → m'.length = m.length → Wx (op2 .mod (.int y) (.int (n : Int)) m') Q X := fun y m' B K hl => by
    refine Wx_mod (by omega) ?_
    have hd0 : 0 ≤ y % (n : Int) := Int.emod_nonneg _ (by omega)
    have hd1 : y % (n : Int) < n := Int.emod_lt_of_pos _ (by omega)
    have := q (y % (n : Int)).toNat m' (by omega) B K hl
    rwa [Int.toNat_of_nonneg hd0] at this
  have tail : WS (evSs ⟨run P k, P.sub, P.fld⟩ none [
      .put (.var 0) (.lit (.int 3)) (.op2 .add (.idx (.var 0) (.lit (.int 3))) (.lit (.int 1))),
      .asg (.nm 3) (.op2 .mod (.blt .int [.op2 .pow (.op2 .add (.op2 .add (.idx (.var 0) (.lit (.int 2))) (.op2 .mul (.lit (.int 15487493)) (.idx (.var 0) (.lit (.int 3))))) (.lit (.int 179426105))) (.lit (.int 5))]) (.lit (.int 2147483647))),
      .ret (.op2 .mod (.blt .int [.op2 .fdiv (.op2 .mod (.blt .int [.op2 .pow (.op2 .add (.op2 .mul (.var 3) (.lit (.int 48271))) (.op2 .mul (.lit (.int 104743)) (.idx (.var 0) (.lit (.int 3))))) (.lit (.int 3))]) (.lit (.int 2147483587))) (.lit (.int 64))]) (.var 1))]
      [some (.obj b), some (.int n), none, none] m) (retQ Q) (fun c fs _ m => X c fs m) := by
    have hm2 : (m.set b (.lst [.int x0, .bl f, .int x2, .int (x3 + 1)]))[b]? = some (.lst [.int x0, .bl f, .int x2, .int (x3 + 1)]) := List.getElem?_set_self hbl
    have hput : putV (.obj b) (.int 3) (.int (x3 + 1)) m = some (m.set b (.lst [.int x0, .bl f, .int x2, .int (x3 + 1)])) := by
      simp [putV, hm, atIx]
    have hB2 : Box (m.set b (.lst [.int x0, .bl f, .int x2, .int (x3 + 1)])) b (c + 1) := ⟨_, _, _, _, hm2, h1, h2, by omega, by omega, hS.set hm⟩
    simp [(i0 hm).2.2.2, hput, (i0 hm2).2.2.2, (i0 hm2).2.2.1]
    refine Wx_mul (mulOk_left (by decide)) ?_
    try simp
    refine Wx_pow ⟨by omega, by omega, by omega⟩ ?_
    try simp
    refine Wx_mod (by omega) ?_
    try simp [(i0 hm2).2.2.2]
    generalize hy : ((x2 + 15487493 * (x3 + 1) + 179426105) ^ 5 % 2147483647 : Int) = y
    have hy0 : 0 ≤ y := by rw [← hy]; exact Int.emod_nonneg _ (by omega)
    have hy1 : y < 2147483647 := by rw [← hy]; exact Int.emod_lt_of_pos _ (by omega)
    refine Wx_mul (mulOk_right (by decide)) ?_
    try simp [(i0 hm2).2.2.2]
    refine Wx_mul (mulOk_left (by decide)) ?_
    try simp
    refine Wx_pow ⟨by omega, by omega, by omega⟩ ?_
    try simp
    refine Wx_mod (by omega) ?_
    try simp
    refine Wx_fdiv (by omega) (by decide) ?_
    try simp
    exact fin _ _ hB2 Keep.set (by simp)
  simp only [takeFd, start, List.map_cons, List.map_nil, List.length_cons, List.length_nil, List.replicate, List.cons_append, List.nil_append, Nat.reduceAdd, Nat.reduceSub]
  rw [evSs_cons, WS_then]
  simp only [evS_ife, evT_eq, evE_and, evE_idx, evE_var, evE_lit, evE_cmp, List.getElem?_cons_zero, List.getElem?_cons_succ, Rs.bind_ok, (i0 hm).1, (i0 hm).2.1, tru_bl, cmp_gt_int, WS_of, Wx_bind, Wx_ok, Wx_ite, WS_ite]
  cases f with
  | false => simpa using tail
  | true =>
    by_cases hp : 0 < x0
    · simp [hp, (i0 hm).1]
      have hput : putV (.obj b) (.int 0) (.int (x0 / n)) m = some (m.set b (.lst [.int (x0 / n), .bl true, .int x2, .int x3])) := by
        simp [putV, hm, atIx]
      have hm2 : (m.set b (.lst [.int (x0 / n), .bl true, .int x2, .int x3]))[b]? = some (.lst [.int (x0 / n), .bl true, .int x2, .int x3]) := List.getElem?_set_self hbl
      refine Wx_mod (by omega) ?_
      simp [(i0 hm).1]
      refine Wx_fdiv (by omega) (by rw [Int.natAbs_natCast]; exact log2_lt (Nat.lt_trans hn2 (Nat.pow_lt_pow_right (by omega) (by omega))) (by omega)) ?_
      simp [hput]
      have hd0 : 0 ≤ x0 % (n : Int) := Int.emod_nonneg _ (by omega)
      have hd1 : x0 % (n : Int) < n := Int.emod_lt_of_pos _ (by omega)
      have := q (x0 % (n : Int)).toNat _ (by omega) ⟨_, _, _, _, hm2, h1, h2, h3, by omega, hS.set hm⟩ Keep.set (by simp)
      rwa [Int.toNat_of_nonneg hd0] at this
    · simpa [hp] using tail
end Ev
set_option linter.all false
set_option maxRecDepth 100000
set_option maxHeartbeats 4000000
set_option exponentiation.threshold 100000
/-! P4: _law_low, _law_same. -/
namespace Ev
open PySem
/-! ### _law_low -/
def lawLowFd : Fd := ⟨2, 5, [
  .asg (.tup [.nm 2, .nm 3]) (.tup [.blt .abs [.var 0], .blt .abs [.var 1]]),
  .wh (.cmp .ne (.var 3) (.lit (.int 0))) [.asg (.tup [.nm 2, .nm 3]) (.tup [.var 3, .op2 .mod (.blt .int [.var 2]) (.var 3)])],
  .asg (.nm 4) (.ife (.cmp .gt (.var 1) (.lit (.int 0))) (.lit (.int 1)) (.neg (.lit (.int 1)))),
  .ret (.tup [.op2 .fdiv (.op2 .mul (.var 4) (.var 0)) (.var 2), .op2 .fdiv (.op2 .mul (.var 4) (.var 1)) (.var 2)])]⟩
theorem lawLow_loop {g : Cfg} {cur : Cur} {m : Mem} {Q : Out → Mem → Prop} {X : Nat → List D → Lc → Mem → Prop} {x y z : Option D} {a b : Nat} (ha : a < 2 ^ 2000) (hb : b < 2 ^ 2000) (q : Q (.next [x, y, some (.int (Nat.gcd a b : Nat)), some (.int 0), z]) m) :
    WS (evS g cur (.wh (.cmp .ne (.var 3) (.lit (.int 0))) [.asg (.tup [.nm 2, .nm 3]) (.tup [.var 3, .op2 .mod (.blt .int [.var 2]) (.var 3)])]) [x, y, some (.int (a : Int)), some (.int (b : Int)), z] m) Q X := by
  rw [evS_wh]
  refine while_ok (fun v δ m' => m' = m ∧ ∃ a' b' : Nat, δ = [x, y, some (.int (a' : Int)), some (.int (b' : Int)), z] ∧ Nat.gcd a' b' = Nat.gcd a b ∧ ((b' < a' ∧ a' * b' < 2 ^ v) ∨ (a' ≤ b' ∧ 1 ≤ v ∧ a' * b' < 2 ^ (v - 1))))
    (fun v δ m' hI => ?_) whFuel 4001 _ m (by unfold whFuel; omega) ⟨rfl, a, b, rfl, rfl, ?_⟩
  · obtain ⟨rfl, a', b', rfl, hg, hm⟩ := hI
    by_cases h0 : b' = 0
    · subst h0
      simp only [evT_eq, evE_cmp, evE_var, evE_lit, List.getElem?_cons_succ, List.getElem?_cons_zero, Rs.bind_ok, cmp_ne_int, tru_bl, Wx_bind, Wx_ok, decide_not]
      rw [Nat.gcd_zero_right] at hg
      subst hg
      simpa using q
    · obtain ⟨v', hv, hr, hl⟩ := gcd_meas h0 hm
      have hbz : ¬ ((b' : Int) = 0) := by omega
      simp only [evT_eq, evE_cmp, evE_var, evE_lit, List.getElem?_cons_succ, List.getElem?_cons_zero, Rs.bind_ok, cmp_ne_int, tru_bl, Wx_bind, Wx_ok, decide_not, hbz, decide_false, Bool.not_false]
      simp only [evSs_cons, evSs_nil, evS_asg, evE_tup, evEs_cons, evEs_nil, evE_var, evE_op2, evE_blt, blt_int, List.getElem?_cons_succ, List.getElem?_cons_zero, Rs.bind_ok, WS_then, WS_of, Wx_bind, Wx_ok]
      refine Wx_mod (by omega) ?_
      simp only [Rs.bind_ok, Wx_bind, Wx_ok, stTg_tup, stTgs_cons, stTgs_nil, stTg_nm, List.length_cons, List.length_nil, List.set_cons_zero, List.set_cons_succ, stThen_some, WS_ok, thenQ_next, if_true, Nat.reduceAdd, Nat.reduceLT, List.length_set]
      refine ⟨v', hv, trivial, b', a' % b', by simp, ?_, .inl ⟨hr, hl⟩⟩
      rw [← hg, Nat.gcd_comm a' b', Nat.gcd_rec b' a', Nat.gcd_comm]
  · have hab : a * b < 2 ^ 4000 := by
      calc a * b < 2 ^ 2000 * 2 ^ 2000 := Nat.mul_lt_mul'' ha hb
        _ = 2 ^ 4000 := by rw [← Nat.pow_add]
    by_cases h : b < a
    · exact .inl ⟨h, Nat.lt_of_lt_of_le hab (Nat.pow_le_pow_right (by omega) (by omega))⟩
    · exact .inr ⟨by omega, by omega, hab⟩
theorem lawLow_ok {P : Prog} {k i : Nat} {m : Mem} {Q : D → Mem → Prop} {X : Nat → List D → Mem → Prop} (hi : P.fns[i]? = some lawLowFd) {t b : Int} (hb : b ≠ 0) (h1 : t.natAbs < 2 ^ 2000) (h2 : b.natAbs < 2 ^ 2000)
    (q : Q (lo t b) m) : Wx (run P (k + 1) i [.int t, .int b] m) Q X := by
  refine call_f hi rfl ?_
  have hg := gd_pos (t := t) hb
  have hl := gd_le (t := t) hb
  have hlog : ((gd t b : Nat) : Int).natAbs.log2 < 9000 := by
    rw [Int.natAbs_natCast]
    exact log2_lt (Nat.lt_of_le_of_lt hl (Nat.lt_trans h2 (Nat.pow_lt_pow_right (by omega) (by omega)))) (by omega)
  simp only [lawLowFd, start, List.map_cons, List.map_nil, List.length_cons, List.length_nil, List.replicate, List.cons_append, List.nil_append, Nat.reduceAdd, Nat.reduceSub]
  rw [evSs_cons, WS_then]
  simp only [evS_asg, evE_tup, evEs_cons, evEs_nil, evE_blt, evE_var, List.getElem?_cons_zero, List.getElem?_cons_succ, Rs.bind_ok, blt_abs, WS_of, Wx_bind, Wx_ok, stTg_tup, stTgs_cons, stTgs_nil, stTg_nm, List.length_cons, List.length_nil, List.set_cons_zero, List.set_cons_succ, stThen_some, WS_ok, thenQ_next, if_true, Nat.reduceAdd, Nat.reduceLT, List.length_set]
  rw [evSs_cons, WS_then]
  refine lawLow_loop h1 h2 ?_
  by_cases hp : 0 < b
  · simp [hp]
    refine Wx_mul (mulOk_left (by decide)) (Wx_fdiv (by show (0 : Int) < (gd t b : Nat); omega) hlog ?_)
    refine Wx_mul (mulOk_left (by decide)) (Wx_fdiv (by show (0 : Int) < (gd t b : Nat); omega) hlog ?_)
    have e : sg b = 1 := if_pos hp
    unfold lo loN loD at q
    rw [e] at q
    exact q
  · simp [hp]
    refine Wx_mul (mulOk_left (by decide)) (Wx_fdiv (by show (0 : Int) < (gd t b : Nat); omega) hlog ?_)
    refine Wx_mul (mulOk_left (by decide)) (Wx_fdiv (by show (0 : Int) < (gd t b : Nat); omega) hlog ?_)
    have e : sg b = -1 := if_neg hp
    unfold lo loN loD at q
    rw [e] at q
    exact q
/-! ### the memory grows -/
/-- what stands is left alone, an empty dict may have been walked -/
structure Grow (m m' : Mem) : Prop where
  le : m.length ≤ m'.length
  at_ : ∀ a, a < m.length → m'[a]? = m[a]? ∨ (m[a]? = some (.dct []) ∧ m'[a]? = some (.fdc []))
theorem Grow.refl {m : Mem} : Grow m m := ⟨Nat.le_refl _, fun _ _ => .inl rfl⟩
theorem Grow.trans {m m1 m2 : Mem} (h : Grow m m1) (h' : Grow m1 m2) : Grow m m2 := ⟨Nat.le_trans h.le h'.le, fun a ha => by
  rcases h.at_ a ha with e | ⟨e1, e2⟩
  · rcases h'.at_ a (Nat.lt_of_lt_of_le ha h.le) with e' | ⟨e1', e2'⟩
    · exact .inl (e'.trans e)
    · exact .inr ⟨by rw [← e]; exact e1', e2'⟩
  · rcases h'.at_ a (Nat.lt_of_lt_of_le ha h.le) with e' | ⟨e1', e2'⟩
    · exact .inr ⟨e1, e'.trans e2⟩
    · rw [e2] at e1'; cases e1'⟩
theorem Grow.app {m j : Mem} : Grow m (m ++ j) := ⟨by simp, fun a ha => .inl (List.getElem?_append_left ha)⟩
theorem Grow.lst {m m' : Mem} (g : Grow m m') {a : Nat} {xs : List D} (h : m[a]? = some (.lst xs)) : m'[a]? = some (.lst xs) := by
  rcases g.at_ a (List.getElem?_eq_some_iff.mp h).1 with e | ⟨e, _⟩
  · rw [e]; exact h
  · rw [h] at e; cases e
/-! ### data that is alike -/
inductive All2 (R : D → D → Prop) : List D → List D → Prop
  | nil : All2 R [] []
  | cons {x y : D} {xs ys : List D} : R x y → All2 R xs ys → All2 R (x :: xs) (y :: ys)
theorem All2.imp {R R' : D → D → Prop} {xs ys : List D} (h : All2 R xs ys) (k : ∀ x y, R x y → R' x y) : All2 R' xs ys := by
  induction h with
  | nil => exact .nil
  | cons a _ ih => exact .cons (k _ _ a) ih
theorem All2.len {R : D → D → Prop} {xs ys : List D} (h : All2 R xs ys) : xs.length = ys.length := by
  induction h with
  | nil => rfl
  | cons a _ ih => simp [ih]
theorem All2.get {R : D → D → Prop} {xs ys : List D} (h : All2 R xs ys) : ∀ {j : Nat} (hj : j < ys.length), ∃ x y, xs[j]? = some x ∧ ys[j]? = some y ∧ R x y := by
  induction h with
  | nil => intro j hj; simp at hj
  | cons a _ ih =>
    intro j hj
    cases j with
    | zero => exact ⟨_, _, rfl, rfl, a⟩
    | succ j => simpa using ih (j := j) (by simpa using hj)
def Sm : Nat → Mem → D → D → Prop
  | 0, _, _, _ => False
  | n + 1, m, x, y => (x = .non ∧ y = .non) ∨ (∃ b, x = .bl b ∧ y = .bl b) ∨ (∃ i, x = .int i ∧ y = .int i) ∨ (∃ s, x = .str s ∧ y = .str s ∧ SeqAt.shaped (.str s) = true) ∨
      (∃ xs ys, x = .tup xs ∧ y = .tup ys ∧ ys.length ≤ 1000 ∧ All2 (Sm n m) xs ys) ∨
      (∃ a b xs ys, x = .obj a ∧ y = .obj b ∧ m[a]? = some (.lst xs) ∧ m[b]? = some (.lst ys) ∧ ys.length ≤ 1000 ∧ All2 (Sm n m) xs ys) ∨
      (∃ a, x = .obj a ∧ y = .obj a ∧ (m[a]? = some (.dct []) ∨ m[a]? = some (.fdc [])))
theorem Sm.grow {m m' : Mem} (g : Grow m m') : ∀ {n : Nat} {x y : D}, Sm n m x y → Sm n m' x y
  | 0, _, _, h => h
  | n + 1, x, y, h => by
    rcases h with h | h | h | h | ⟨xs, ys, e1, e2, hl, h⟩ | ⟨a, b, xs, ys, e1, e2, h1, h2, hl, h⟩ | ⟨a, e1, e2, h⟩
    · exact .inl h
    · exact .inr (.inl h)
    · exact .inr (.inr (.inl h))
    · exact .inr (.inr (.inr (.inl h)))
    · exact .inr (.inr (.inr (.inr (.inl ⟨xs, ys, e1, e2, hl, h.imp fun x y => Sm.grow g⟩))))
    · exact .inr (.inr (.inr (.inr (.inr (.inl ⟨a, b, xs, ys, e1, e2, g.lst h1, g.lst h2, hl, h.imp fun x y => Sm.grow g⟩)))))
    · refine .inr (.inr (.inr (.inr (.inr (.inr ⟨a, e1, e2, ?_⟩)))))
      have hlt : a < m.length := by
        rcases h with h | h <;> exact (List.getElem?_eq_some_iff.mp h).1
      rcases g.at_ a hlt with e | ⟨_, e⟩
      · rw [e]; exact h
      · exact .inr e
/-! ### a comprehension that finds nothing -/
theorem comp_nothing {b : D → Mem → Rs (Option D)} (I : Mem → Prop) : ∀ (xs : List D) (m : Mem), (∀ d ∈ xs, ∀ m, I m → Wx (b d m) (fun o m' => o = none ∧ I m') NX) → I m → ∀ {Q : List D → Mem → Prop} {X : Nat → List D → Mem → Prop}, (∀ m', I m' → Q [] m') → Wx (compC b xs [] m) Q X
  | [], m, _, i, Q, _, q => q m i
  | d :: ds, m, h, i, Q, X, q => by
    have h1 := h d List.mem_cons_self m i
    show Wx (turnC (b d m) [] fun acc' m' => compC b ds acc' m') Q X
    cases e : b d m with
    | ok o m' =>
      rw [e] at h1
      obtain ⟨rfl, i'⟩ := h1
      exact comp_nothing I ds m' (fun d' hd => h d' (List.mem_cons_of_mem _ hd)) i' q
    | exc c fs m' => rw [e] at h1; exact h1.elim
    | stuck => rw [e] at h1; exact h1.elim
/-! ### _law_same -/
def sameFd (s : Nat) : Fd := ⟨2, 4, [
  .ife (.or (.cmp .is (.var 1) (.lit .non)) (.isi [.bool] (.var 1))) [.ret (.ife (.cmp .is (.var 1) (.lit .non)) (.cmp .is (.var 0) (.lit .non)) (.and (.isi [.bool] (.var 0)) (.cmp .eq (.cmp .is (.var 0) (.lit (.bl true))) (.cmp .is (.var 1) (.lit (.bl true))))))] [],
  .ife (.isi [.int] (.var 1)) [.ret (.and (.isi [.int] (.var 0)) (.and (.not (.isi [.bool] (.var 0))) (.cmp .eq (.var 0) (.var 1))))] [],
  .ife (.isi [.str] (.var 1)) [.ret (.and (.isi [.str] (.var 0)) (.cmp .eq (.var 0) (.var 1)))] [],
  .ife (.isi [.dict] (.var 1)) [
    .ife (.or (.not (.isi [.dict] (.var 0))) (.cmp .ne (.blt .len [.var 0]) (.blt .len [.var 1]))) [.ret (.lit (.bl false))] [],
    .ret (.cmp .eq (.comp [3] (.var 3) (.nm 3) (.e (.var 1)) (some (.or (.cmp .notin (.var 3) (.var 0)) (.not (.call s [.idx (.var 0) (.var 3), .idx (.var 1) (.var 3)]))))) (.lst []))] [],
  .ife (.or (.not (.isi [.list, .tuple] (.var 0))) (.or (.cmp .ne (.isi [.list] (.var 0)) (.isi [.list] (.var 1))) (.cmp .ne (.blt .len [.var 0]) (.blt .len [.var 1])))) [.ret (.lit (.bl false))] [],
  .ret (.cmp .eq (.comp [2] (.var 2) (.nm 2) (.r1 (.blt .len [.var 1])) (some (.not (.call s [.idx (.var 0) (.var 2), .idx (.var 1) (.var 2)])))) (.lst []))]⟩
@[simp] theorem is_non_non {m : Mem} : cmpV .is .non .non m = .ok (.bl true) m := rfl
@[simp] theorem is_int_non {i : Int} {m : Mem} : cmpV .is (.int i) .non m = .ok (.bl false) m := rfl
@[simp] theorem is_bl_non {i : Bool} {m : Mem} : cmpV .is (.bl i) .non m = .ok (.bl false) m := rfl
@[simp] theorem is_str_non {i : Str} {m : Mem} : cmpV .is (.str i) .non m = .ok (.bl false) m := rfl
@[simp] theorem is_tup_non {i : List D} {m : Mem} : cmpV .is (.tup i) .non m = .ok (.bl false) m := rfl
@[simp] theorem is_obj_non {i : Nat} {m : Mem} : cmpV .is (.obj i) .non m = .ok (.bl false) m := rfl
@[simp] theorem is_bl_bl {a b : Bool} {m : Mem} : cmpV .is (.bl a) (.bl b) m = .ok (.bl (decide (a = b))) m := rfl
@[simp] theorem cmp_eq_bl {a b : Bool} {m : Mem} : cmpV .eq (.bl a) (.bl b) m = .ok (.bl (decide (a = b))) m := by
  cases a <;> cases b <;> rfl
@[simp] theorem cmp_ne_bl {a b : Bool} {m : Mem} : cmpV .ne (.bl a) (.bl b) m = .ok (.bl (decide (a ≠ b))) m := by
  cases a <;> cases b <;> rfl
theorem cmp_eq_str {a : Str} {m : Mem} (h : SeqAt.shaped (.str a) = true) : cmpV .eq (.str a) (.str a) m = .ok (.bl true) m := by
  show ofB (eqW (.str a) (.str a) m) m = _
  show ofB (if SeqAt.shaped (.str a) = true ∧ SeqAt.shaped (.str a) = true then some (PyData.eqv (.str a) (.str a)) else none) m = _
  rw [if_pos ⟨h, h⟩]
  show ofB (some (a == a)) m = _
  rw [beq_self_eq_true]
  rfl
theorem cmp_eq_nil {a b : Nat} {m : Mem} (ha : m[a]? = some (.lst [])) (hb : m[b]? = some (.lst [])) : cmpV .eq (.obj a) (.obj b) m = .ok (.bl true) m := by
  show ofB (eqV (.obj a) (.obj b) m) m = _
  have e : eqV (.obj a) (.obj b) m = eqW (.obj a) (.obj b) m := rfl
  rw [e]
  unfold eqW
  have h1 : toPy m 60 (.obj a) = some (.list []) := by simp [toPy, ha, mapO]
  have h2 : toPy m 60 (.obj b) = some (.list []) := by simp [toPy, hb, mapO]
  rw [h1, h2]
  rfl
theorem rng_mem {n : Nat} {d : D} (h : d ∈ rng 0 (n : Int)) : ∃ j : Nat, j < n ∧ d = .int (j : Int) := by
  unfold rng at h
  obtain ⟨j, hj, rfl⟩ := List.mem_map.mp h
  exact ⟨j, by simpa using hj, by simp⟩
/-- the two empty lists at the end are equal -/
theorem nil_end {m : Mem} {Q : D → Mem → Prop} {X : Nat → List D → Mem → Prop} (q : ∀ m', Grow m m' → Q (.bl true) m') : Wx (newLst [] m) (fun x m1 => Wx (newLst [] m1) (fun y m2 => Wx (cmpV .eq x y m2) Q X) X) X := by
  show Wx (cmpV .eq (.obj m.length) (.obj (m ++ [Ob.lst []]).length) ((m ++ [Ob.lst []]) ++ [Ob.lst []])) Q X
  rw [cmp_eq_nil]
  · exact q _ (Grow.app.trans Grow.app)
  · rw [List.getElem?_append_left (by simp), List.getElem?_append_right (Nat.le_refl _)]
    simp
  · rw [List.getElem?_append_right (Nat.le_refl _)]
    simp
theorem skip {g : Cfg} {cur : Cur} {δ : Lc} {m : Mem} {c : E} {a ss : List S} {Q : Out → Mem → Prop} {X : Nat → List D → Lc → Mem → Prop} (h : evT g cur δ c m = .ok false m) (q : WS (evSs g cur ss δ m) Q X) : WS (evSs g cur (.ife c a [] :: ss) δ m) Q X := by
  rw [evSs_cons, WS_then, evS_ife, h]
  simpa using q
/-- the last row of _law_same, for two sequences -/
theorem same_seq {g : Cfg} {cur : Cur} {m : Mem} {x y : D} {xs ys : List D} {s : Nat} {Q : D → Mem → Prop} {X : Nat → List D → Lc → Mem → Prop} (hl : ys.length ≤ 1000) (hx : ∀ m', Grow m m' → seqOf x m' = some xs) (hy : ∀ m', Grow m m' → seqOf y m' = some ys)
    (hlen : ∀ X' : Nat → List D → Mem → Prop, ∀ Q', Q' (.int ys.length) m → Wx (bltV .len [y] m) Q' X')
    (hxl : xs.length = ys.length) (call : ∀ (j : Nat) u v m', xs[j]? = some u → ys[j]? = some v → Grow m m' → Wx (g.call s [u, v] m') (fun d m2 => d = .bl true ∧ Grow m m2) NX) (q : ∀ m', Grow m m' → Q (.bl true) m') :
    WS (evSs g cur [.ret (.cmp .eq (.comp [2] (.var 2) (.nm 2) (.r1 (.blt .len [.var 1])) (some (.not (.call s [.idx (.var 0) (.var 2), .idx (.var 1) (.var 2)])))) (.lst []))] [some x, some y, none, none] m) (retQ Q) X := by
  rw [evSs_cons, WS_then]
  simp only [evS_ret, WS_of, evE_cmp, Wx_bind, evE_comp, evIt_r1, evE_blt, evEs_cons, evEs_nil, evE_var, List.getElem?_cons_zero, List.getElem?_cons_succ, Wx_ok]
  refine hlen _ _ ?_
  have hb : bnd (ys.length : Int) = true := by
    unfold bnd
    simp only [Bool.and_eq_true, decide_eq_true_eq]
    omega
  have hr : r1V (.int (ys.length : Int)) m = .ok (.con (rng 0 (ys.length : Int))) m := by
    simp only [r1V, hb, if_true]
  rw [hr]
  simp only [Wx_ok]
  show Wx (compC _ (rng 0 (ys.length : Int)) [] m) _ _
  refine comp_nothing (fun m' => Grow m m') _ m (fun d hd m' g' => ?_) .refl fun m' g' => ?_
  · obtain ⟨j, hj, rfl⟩ := rng_mem hd
    have hjx : j < xs.length := by omega
    simp only [stTg_nm, wipeD, List.length_set, List.length_cons, List.length_nil, Nat.reduceAdd, Nat.reduceLT, if_true, stThen_some, iteC, evC_some, evE_not, evE_call, evEs_cons, evEs_nil, evE_idx, evE_var, Wx_bind, List.set_cons_succ, List.set_cons_zero, List.getElem?_cons_zero, List.getElem?_cons_succ, Wx_ok]
    have i1 : idxV x (.int (j : Int)) m' = .ok xs[j] m' := by
      unfold idxV
      rw [hx m' g']
      simp [atIx, hjx]
    have i2 : idxV y (.int (j : Int)) m' = .ok ys[j] m' := by
      unfold idxV
      rw [hy m' g']
      simp [atIx, hj]
    rw [i1]
    simp only [Wx_ok]
    rw [i2]
    simp only [Wx_ok]
    refine (call j _ _ m' (List.getElem?_eq_getElem hjx) (List.getElem?_eq_getElem hj) g').nx fun d m2 hd => ?_
    obtain ⟨rfl, g2⟩ := hd
    simp [g2]
  · have := nil_end (m := m') (Q := fun d m2 => thenQ (retQ Q) (fun δ m => WS (evSs g cur [] δ m) (retQ Q) X) (.ret d) m2) (X := fun c fs m => X c fs [some x, some y, none, none] m) (fun m2 g2 => q m2 (g'.trans g2))
    simpa using this
theorem same_ok {P : Prog} {s : Nat} (hi : P.fns[s]? = some (sameFd s)) : ∀ (n k : Nat) {x y : D} {m : Mem} {Q : D → Mem → Prop} {X : Nat → List D → Mem → Prop}, n ≤ k → Sm n m x y → (∀ m', Grow m m' → Q (.bl true) m') → Wx (run P k s [x, y] m) Q X
  | 0, _, _, _, _, _, _, _, h, _ => h.elim
  | n + 1, 0, _, _, _, _, _, hk, _, _ => absurd hk (by omega)
  | n + 1, k + 1, x, y, m, Q, X, hk, h, q => by
    refine call_f hi rfl ?_
    unfold Sm at h
    rcases h with ⟨rfl, rfl⟩ | ⟨b, rfl, rfl⟩ | ⟨i, rfl, rfl⟩ | ⟨z, rfl, rfl, hz⟩ | ⟨xs, ys, rfl, rfl, hl, h⟩ | ⟨a, b, xs, ys, rfl, rfl, h1, h2, hl, h⟩ | ⟨a, rfl, rfl, h⟩
    · simp [sameFd, start]
      exact q m .refl
    · cases b <;> (simp [sameFd, start, tysIs, tyIs]; exact q m .refl)
    · simp [sameFd, start, tysIs, tyIs]
      exact q m .refl
    · simp [sameFd, start, tysIs, tyIs, cmp_eq_str hz]
      exact q m .refl
    · simp only [sameFd, start, List.map_cons, List.map_nil, List.length_cons, List.length_nil, List.replicate, List.cons_append, List.nil_append, Nat.reduceAdd, Nat.reduceSub]
      refine skip (by simp [tysIs, tyIs]) (skip (by simp [tysIs, tyIs]) (skip (by simp [tysIs, tyIs]) (skip (by simp [tysIs, tyIs]) (skip (by simp [tysIs, tyIs, bltV, h.len]) ?_))))
      have hy : ∀ X' : Nat → List D → Mem → Prop, ∀ Q' : D → Mem → Prop, Q' (.int ys.length) m → Wx (bltV .len [.tup ys] m) Q' X' := fun X' Q' q' => q'
      have hx1 : ∀ m', Grow m m' → seqOf (.tup xs) m' = some xs := fun _ _ => rfl
      have hx2 : ∀ m', Grow m m' → seqOf (.tup ys) m' = some ys := fun _ _ => rfl
      have cl : ∀ (j : Nat) u v m', xs[j]? = some u → ys[j]? = some v → Grow m m' → Wx (run P k s [u, v] m') (fun d m2 => d = .bl true ∧ Grow m m2) NX := fun j u v m' hu hv g' => by
        obtain ⟨u', v', e1, e2, hs⟩ := h.get (j := j) (List.getElem?_eq_some_iff.mp hv).1
        rw [hu] at e1
        rw [hv] at e2
        cases e1
        cases e2
        exact same_ok hi n k (by omega) (hs.grow g') fun m2 g2 => ⟨rfl, g'.trans g2⟩
      generalize D.tup xs = x0 at hx1 ⊢
      generalize D.tup ys = y0 at hx2 hy ⊢
      exact same_seq hl hx1 hx2 hy h.len cl q
    · simp only [sameFd, start, List.map_cons, List.map_nil, List.length_cons, List.length_nil, List.replicate, List.cons_append, List.nil_append, Nat.reduceAdd, Nat.reduceSub]
      refine skip (by simp [tysIs, tyIs, h2]) (skip (by simp [tysIs, tyIs, h2]) (skip (by simp [tysIs, tyIs, h2]) (skip (by simp [tysIs, tyIs, h2]) (skip (by simp [tysIs, tyIs, bltV, h.len, h1, h2]) ?_))))
      have cl : ∀ (j : Nat) u v m', xs[j]? = some u → ys[j]? = some v → Grow m m' → Wx (run P k s [u, v] m') (fun d m2 => d = .bl true ∧ Grow m m2) NX := fun j u v m' hu hv g' => by
        obtain ⟨u', v', e1, e2, hs⟩ := h.get (j := j) (List.getElem?_eq_some_iff.mp hv).1
        rw [hu] at e1
        rw [hv] at e2
        cases e1
        cases e2
        exact same_ok hi n k (by omega) (hs.grow g') fun m2 g2 => ⟨rfl, g'.trans g2⟩
      have hx1 : ∀ m', Grow m m' → seqOf (.obj a) m' = some xs := fun m' g' => by simp [seqOf, g'.lst h1]
      have hx2 : ∀ m', Grow m m' → seqOf (.obj b) m' = some ys := fun m' g' => by simp [seqOf, g'.lst h2]
      have hy : ∀ X' : Nat → List D → Mem → Prop, ∀ Q' : D → Mem → Prop, Q' (.int ys.length) m → Wx (bltV .len [.obj b] m) Q' X' := fun X' Q' q' => by simpa [bltV, h2] using q'
      generalize D.obj b = y0 at hx2 hy ⊢
      generalize D.obj a = x0 at hx1 ⊢
      exact same_seq hl hx1 hx2 hy h.len cl q
    · have hal : a < m.length := by
        rcases h with h | h <;> exact (List.getElem?_eq_some_iff.mp h).1
      have hw : ∃ m1, Grow m m1 ∧ walkOf (.obj a) m = .ok (.con []) m1 := by
        rcases h with h | h
        · refine ⟨m.set a (.fdc []), ⟨by simp, fun b hb => ?_⟩, by simp [walkOf, h]⟩
          by_cases e : a = b
          · subst e
            exact .inr ⟨h, List.getElem?_set_self hal⟩
          · exact .inl (by rw [List.getElem?_set_ne e])
        · exact ⟨m, .refl, by simp [walkOf, h]⟩
      obtain ⟨m1, g1, hw⟩ := hw
      have ty : ∀ t, tysIs [t] (.obj a) m = some (t == .dict) := fun t => by
        rcases h with h | h <;> simp [tysIs, tyIs, h] <;> cases t <;> rfl
      have hlen : bltV .len [.obj a] m = .ok (.int 0) m := by
        rcases h with h | h <;> simp [bltV, h]
      simp only [sameFd, start, List.map_cons, List.map_nil, List.length_cons, List.length_nil, List.replicate, List.cons_append, List.nil_append, Nat.reduceAdd, Nat.reduceSub]
      refine skip (by simp [ty]) (skip (by simp [ty]) (skip (by simp [ty]) ?_))
      rw [evSs_cons, WS_then, evS_ife]
      have hT : evT ⟨run P k, P.sub, P.fld⟩ none [some (.obj a), some (.obj a), none, none] (.isi [.dict] (.var 1)) m = .ok true m := by simp [ty]
      rw [hT]
      simp only [WS_of, Wx_ok, if_true]
      refine skip (by simp [ty, hlen]) ?_
      rw [evSs_cons, WS_then]
      simp only [evS_ret, WS_of, evE_cmp, Wx_bind, evE_comp, evIt_e, evE_var, List.getElem?_cons_zero, List.getElem?_cons_succ, Wx_ok, hw]
      have := nil_end (m := m1) (Q := Q) (X := X) (fun m2 g2 => q m2 (g1.trans g2))
      simpa [walkC, compC] using this
end Ev
set_option linter.all false
set_option maxRecDepth 100000
set_option maxHeartbeats 4000000
set_option exponentiation.threshold 100000
/-! P5: is_tuple, is_number, check_number. -/
namespace Ev
open PySem
def isTupFd : Fd := ⟨2, 2, [.ret (.and (.isi [.tuple] (.var 0)) (.cmp .eq (.blt .len [.var 0]) (.var 1)))]⟩
def isTupD (d : D) (n : Int) : Bool := match d with
  | .tup xs => decide ((xs.length : Int) = n)
  | _ => false
theorem isTup_ok {P : Prog} {k i : Nat} {m : Mem} {Q : D → Mem → Prop} {X : Nat → List D → Mem → Prop} (hi : P.fns[i]? = some isTupFd) {d : D} {n : Int} (hd : okD d m = true) (q : Q (.bl (isTupD d n)) m) : Wx (run P (k + 1) i [d, .int n] m) Q X := by
  refine call_f hi rfl ?_
  obtain ⟨b, e1, e2⟩ := tysIs1 (t := .tuple) hd
  cases d with
  | tup xs =>
    have hb : b = true := by cases e1; rfl
    subst hb
    simp [isTupFd, start, e2, bltV]
    exact q
  | obj a =>
    have hb : b = false := by
      have hl : a < m.length := of_decide_eq_true hd
      simp only [tyIs, List.getElem?_eq_getElem hl] at e1
      cases hm : m[a] <;> (rw [hm] at e1; cases e1; rfl)
    subst hb
    simp [isTupFd, start, e2]
    exact q
  | fn i => cases hd
  | non => have hb : b = false := by cases e1; rfl
           subst hb; simp [isTupFd, start, e2]; exact q
  | bl c => have hb : b = false := by cases e1; rfl
            subst hb; simp [isTupFd, start, e2]; exact q
  | int c => have hb : b = false := by cases e1; rfl
             subst hb; simp [isTupFd, start, e2]; exact q
  | str c => have hb : b = false := by cases e1; rfl
             subst hb; simp [isTupFd, start, e2]; exact q
/-! ### is_number -/
def isNumFd (it ii dv : Nat) : Fd := ⟨1, 1, [
  .ife (.or (.not (.call it [.var 0, .lit (.int 2)])) (.or (.not (.call ii [.idx (.var 0) (.lit (.int 0))])) (.not (.call ii [.idx (.var 0) (.lit (.int 1))])))) [.ret (.lit (.bl false))] [],
  .ret (.and (.cmp .gt (.idx (.var 0) (.lit (.int 1))) (.lit (.int 0))) (.cmp .eq (.call dv [.blt .abs [.idx (.var 0) (.lit (.int 0))], .idx (.var 0) (.lit (.int 1))]) (.lit (.int 1))))]⟩
def isNumD (d : D) : Bool := match d with
  | .tup [.int a, .int b] => decide (0 < b) && decide (gd a b = 1)
  | _ => false
/-- what may be looked at, two deep -/
def okD2 (d : D) (m : Mem) : Bool := okD d m && (match d with
  | .tup xs => xs.all fun x => okD x m
  | _ => true)
def smallD (d : D) : Bool := match d with
  | .tup [.int a, .int b] => decide (a.natAbs < 2 ^ 2000) && decide (b.natAbs < 2 ^ 2000)
  | _ => true
theorem isNum_ok {P : Prog} {k i it ii dv : Nat} {m : Mem} {Q : D → Mem → Prop} {X : Nat → List D → Mem → Prop} (hi : P.fns[i]? = some (isNumFd it ii dv)) (ht : P.fns[it]? = some isTupFd) (hii : P.fns[ii]? = some isIntFd) (hdv : P.fns[dv]? = some divFd)
    {d : D} (hd : okD2 d m = true) (hs : smallD d = true) (q : Q (.bl (isNumD d)) m) : Wx (run P (k + 2) i [d] m) Q X := by
  refine call_f hi rfl ?_
  unfold okD2 at hd
  simp only [Bool.and_eq_true] at hd
  obtain ⟨hd1, hd2⟩ := hd
  simp only [isNumFd, start, List.map_cons, List.map_nil, List.length_cons, List.length_nil, List.replicate, List.cons_append, List.nil_append, Nat.reduceAdd, Nat.reduceSub]
  rw [evSs_cons, WS_then]
  simp only [evS_ife, evT_eq, evE_or, evE_not, evE_call, evEs_cons, evEs_nil, evE_var, evE_lit, List.getElem?_cons_zero, Rs.bind_ok, WS_of, Wx_bind, Wx_ok]
  refine isTup_ok ht hd1 ?_
  by_cases h2 : isTupD d 2 = true
  · cases d with
    | tup xs =>
      have hl : xs.length = 2 := by
        have : ((xs.length : Int) = 2) := of_decide_eq_true h2
        omega
      obtain ⟨x, y, rfl⟩ : ∃ x y, xs = [x, y] := by
        match xs, hl with
        | [x, y], _ => exact ⟨x, y, rfl⟩
      simp only [List.all_cons, List.all_nil, Bool.and_true, Bool.and_eq_true] at hd2
      have i0 : ∀ m, idxV (.tup [x, y]) (.int 0) m = .ok x m := fun m => by simp [idxV, seqOf, atIx]
      have i1 : ∀ m, idxV (.tup [x, y]) (.int 1) m = .ok y m := fun m => by simp [idxV, seqOf, atIx]
      simp [h2, i0]
      refine isInt_ok hii hd2.1 ?_
      cases x with
      | int a =>
        simp [isIntD, i1]
        refine isInt_ok hii hd2.2 ?_
        cases y with
        | int b =>
          simp [isIntD, i0, i1]
          unfold smallD at hs
          simp only [Bool.and_eq_true, decide_eq_true_eq] at hs
          by_cases hp : 0 < b
          · simp [hp, i0, i1]
            have := div_ok (P := P) (k := k) (m := m) (Q := fun d m2 => Wx (cmpV .eq d (.int 1) m2) (fun a m => Q a m) (fun c fs m => X c fs m)) (X := X) hdv (a := a.natAbs) (b := b.natAbs) hs.1 hs.2 ?_
            · rw [show ((b.natAbs : Nat) : Int) = b by omega] at this
              exact this
            · have e : isNumD (.tup [.int a, .int b]) = decide (gd a b = 1) := by simp [isNumD, hp]
              rw [e] at q
              simp
              have e2 : decide (((a.natAbs.gcd b.natAbs : Nat) : Int) = 1) = decide (gd a b = 1) := by
                unfold gd
                congr 1
                exact propext ⟨fun h => by omega, fun h => by omega⟩
              rw [e2]
              exact q
          · have e : isNumD (.tup [.int a, .int b]) = false := by simp [isNumD, hp]
            rw [e] at q
            simp [hp]
            exact q
        | _ => simp [isIntD]; exact q
      | _ => simp [isIntD]; exact q
    | _ => cases h2
  · have e : isNumD d = false := by
      cases d with
      | tup xs =>
        match xs with
        | [] => rfl
        | [x] => cases x <;> rfl
        | [x, y] => exact absurd rfl h2
        | x :: y :: z :: r => cases x <;> first | rfl | (cases y <;> rfl)
      | _ => rfl
    rw [e] at q
    simp [h2]
    exact q
/-! ### check_number, check_two -/
def chkFd (i c : Nat) : Fd := ⟨1, 1, [.ife (.not (.call i [.var 0])) [.rais c [.var 0]] []]⟩
def chk2Fd (i : Nat) : Fd := ⟨2, 2, [
  .ex (.call i [.var 0]),
  .ex (.call i [.var 1])]⟩
/-- the numbers' defs of a program -/
structure NumP (P : Prog) (it ii dv nu ck cc lw c : Nat) : Prop where
  hit : P.fns[it]? = some isTupFd
  hii : P.fns[ii]? = some isIntFd
  hdv : P.fns[dv]? = some divFd
  hnu : P.fns[nu]? = some (isNumFd it ii dv)
  hck : P.fns[ck]? = some (chkFd nu c)
  hcc : P.fns[cc]? = some (chk2Fd ck)
  hlw : P.fns[lw]? = some (lowFd dv)
section
variable {P : Prog} {k it ii dv nu ck cc lw c : Nat} {m : Mem} {Q : D → Mem → Prop} {X : Nat → List D → Mem → Prop}
theorem chk_ok (N : NumP P it ii dv nu ck cc lw c) {d : D} (hd : okD2 d m = true) (hs : smallD d = true) (q : isNumD d = true → Q .non m) (x : isNumD d = false → X c [d] m) : Wx (run P (k + 3) ck [d] m) Q X := by
  refine call_f N.hck rfl ?_
  simp [chkFd, start]
  refine isNum_ok N.hnu N.hit N.hii N.hdv hd hs ?_
  cases h : isNumD d with
  | true => simpa using q h
  | false => simpa using x h
theorem chk2_ok (N : NumP P it ii dv nu ck cc lw c) {d e : D} (hd : okD2 d m = true) (hs : smallD d = true) (he : okD2 e m = true) (hes : smallD e = true) (q : isNumD d = true → isNumD e = true → Q .non m) (x : isNumD d = false → X c [d] m)
    (x2 : isNumD d = true → isNumD e = false → X c [e] m) : Wx (run P (k + 4) cc [d, e] m) Q X := by
  refine call_f N.hcc rfl ?_
  simp [chk2Fd, start]
  refine chk_ok N hd hs (fun h1 => ?_) x
  refine chk_ok N he hes (fun h2 => ?_) (x2 h1)
  simpa using q h1 h2
end
end Ev
set_option linter.all false
set_option maxRecDepth 100000
set_option maxHeartbeats 4000000
set_option exponentiation.threshold 100000
/-! P6: sums, products, shares. -/
namespace Ev
open PySem
abbrev fr (a b : Int) : D := .tup [.int a, .int b]
/-- a number of few bits -/
structure Num (a b : Int) : Prop where
  pos : 0 < b
  low : gd a b = 1
  ha : a.natAbs < 2 ^ 64
  hb : b.natAbs < 2 ^ 64
theorem Num.is {a b : Int} (h : Num a b) : isNumD (fr a b) = true := by simp [isNumD, h.pos, h.low]
theorem Num.sm {a b : Int} (h : Num a b) : smallD (fr a b) = true := by
  have h1 := h.ha
  have h2 := h.hb
  have : (2 : Nat) ^ 64 ≤ 2 ^ 2000 := Nat.pow_le_pow_right (by omega) (by omega)
  simp only [smallD, Bool.and_eq_true, decide_eq_true_eq]
  omega
theorem fr_ok {a b : Int} {m : Mem} : okD2 (fr a b) m = true := rfl
theorem mul_lt {x y : Int} (hx : x.natAbs < 2 ^ 64) (hy : y.natAbs < 2 ^ 64) : (x * y).natAbs < 2 ^ 128 := by
  rw [Int.natAbs_mul, show (2 : Nat) ^ 128 = 2 ^ 64 * 2 ^ 64 by decide]
  exact Nat.mul_lt_mul'' hx hy
theorem big : (2 : Nat) ^ 130 < 2 ^ 2000 := Nat.pow_lt_pow_right (by omega) (by omega)
theorem p130 : (2 : Nat) ^ 130 = 4 * 2 ^ 128 := by decide
@[simp] theorem idx0 {x y : D} {m : Mem} : idxV (.tup [x, y]) (.int 0) m = .ok x m := by simp [idxV, seqOf, atIx]
@[simp] theorem idx1 {x y : D} {m : Mem} : idxV (.tup [x, y]) (.int 1) m = .ok y m := by simp [idxV, seqOf, atIx]
def sumFd (lw : Nat) : Fd := ⟨2, 2, [.ret (.call lw [.op2 .add (.op2 .mul (.idx (.var 0) (.lit (.int 0))) (.idx (.var 1) (.lit (.int 1)))) (.op2 .mul (.idx (.var 1) (.lit (.int 0))) (.idx (.var 0) (.lit (.int 1)))), .op2 .mul (.idx (.var 0) (.lit (.int 1))) (.idx (.var 1) (.lit (.int 1)))])]⟩
def lessFd (lw : Nat) : Fd := ⟨2, 2, [.ret (.call lw [.op2 .sub (.op2 .mul (.idx (.var 0) (.lit (.int 0))) (.idx (.var 1) (.lit (.int 1)))) (.op2 .mul (.idx (.var 1) (.lit (.int 0))) (.idx (.var 0) (.lit (.int 1)))), .op2 .mul (.idx (.var 0) (.lit (.int 1))) (.idx (.var 1) (.lit (.int 1)))])]⟩
def prodFd (lw : Nat) : Fd := ⟨2, 2, [.ret (.call lw [.op2 .mul (.idx (.var 0) (.lit (.int 0))) (.idx (.var 1) (.lit (.int 0))), .op2 .mul (.idx (.var 0) (.lit (.int 1))) (.idx (.var 1) (.lit (.int 1)))])]⟩
def shareFd (lw : Nat) : Fd := ⟨2, 2, [.ret (.call lw [.op2 .mul (.idx (.var 0) (.lit (.int 0))) (.idx (.var 1) (.lit (.int 1))), .op2 .mul (.idx (.var 0) (.lit (.int 1))) (.idx (.var 1) (.lit (.int 0)))])]⟩
def signFd : Fd := ⟨2, 3, [
  .asg (.nm 2) (.op2 .sub (.op2 .mul (.idx (.var 0) (.lit (.int 0))) (.idx (.var 1) (.lit (.int 1)))) (.op2 .mul (.idx (.var 1) (.lit (.int 0))) (.idx (.var 0) (.lit (.int 1))))),
  .ret (.ife (.cmp .eq (.var 2) (.lit (.int 0))) (.lit (.int 0)) (.ife (.cmp .gt (.var 2) (.lit (.int 0))) (.lit (.int 1)) (.neg (.lit (.int 1)))))]⟩
section
variable {P : Prog} {k i lw dv : Nat} {m : Mem} {Q : D → Mem → Prop} {X : Nat → List D → Mem → Prop} {a b c d : Int}
theorem sum_ok (hi : P.fns[i]? = some (sumFd lw)) (hl : P.fns[lw]? = some (lowFd dv)) (hd : P.fns[dv]? = some divFd) (n1 : Num a b) (n2 : Num c d) (q : Q (lo (a * d + c * b) (b * d)) m) : Wx (run P (k + 3) i [fr a b, fr c d] m) Q X := by
  refine call_f hi rfl ?_
  simp [sumFd, start]
  refine Wx_mul (mulOk_left n1.ha) ?_
  try simp
  refine Wx_mul (mulOk_left n2.ha) ?_
  try simp
  refine Wx_mul (mulOk_left n1.hb) ?_
  have e1 := mul_lt n1.ha n2.hb
  have e2 := mul_lt n2.ha n1.hb
  have e3 := mul_lt n1.hb n2.hb
  have hbig := big
  have hp := p130
  refine low_ok hl hd (Int.ne_of_gt (Int.mul_pos n1.pos n2.pos)) (by omega) (by omega) ?_
  simpa using q
theorem less_ok (hi : P.fns[i]? = some (lessFd lw)) (hl : P.fns[lw]? = some (lowFd dv)) (hd : P.fns[dv]? = some divFd) (n1 : Num a b) (n2 : Num c d) (q : Q (lo (a * d - c * b) (b * d)) m) : Wx (run P (k + 3) i [fr a b, fr c d] m) Q X := by
  refine call_f hi rfl ?_
  simp [lessFd, start]
  refine Wx_mul (mulOk_left n1.ha) ?_
  try simp
  refine Wx_mul (mulOk_left n2.ha) ?_
  try simp
  refine Wx_mul (mulOk_left n1.hb) ?_
  have e1 := mul_lt n1.ha n2.hb
  have e2 := mul_lt n2.ha n1.hb
  have e3 := mul_lt n1.hb n2.hb
  have hbig := big
  have hp := p130
  refine low_ok hl hd (Int.ne_of_gt (Int.mul_pos n1.pos n2.pos)) (by omega) (by omega) ?_
  simpa using q
theorem prod_ok (hi : P.fns[i]? = some (prodFd lw)) (hl : P.fns[lw]? = some (lowFd dv)) (hd : P.fns[dv]? = some divFd) (n1 : Num a b) (n2 : Num c d) (q : Q (lo (a * c) (b * d)) m) : Wx (run P (k + 3) i [fr a b, fr c d] m) Q X := by
  refine call_f hi rfl ?_
  simp [prodFd, start]
  refine Wx_mul (mulOk_left n1.ha) ?_
  try simp
  refine Wx_mul (mulOk_left n1.hb) ?_
  have e1 := mul_lt n1.ha n2.ha
  have e3 := mul_lt n1.hb n2.hb
  have hbig := big
  have hp := p130
  refine low_ok hl hd (Int.ne_of_gt (Int.mul_pos n1.pos n2.pos)) (by omega) (by omega) ?_
  simpa using q
theorem share_ok (hi : P.fns[i]? = some (shareFd lw)) (hl : P.fns[lw]? = some (lowFd dv)) (hd : P.fns[dv]? = some divFd) (n1 : Num a b) (n2 : Num c d) (hc : c ≠ 0) (q : Q (lo (a * d) (b * c)) m) : Wx (run P (k + 3) i [fr a b, fr c d] m) Q X := by
  refine call_f hi rfl ?_
  simp [shareFd, start]
  refine Wx_mul (mulOk_left n1.ha) ?_
  try simp
  refine Wx_mul (mulOk_left n1.hb) ?_
  have e1 := mul_lt n1.ha n2.hb
  have e3 := mul_lt n1.hb n2.ha
  have hbig := big
  have hp := p130
  refine low_ok hl hd (Int.mul_ne_zero (Int.ne_of_gt n1.pos) hc) (by omega) (by omega) ?_
  simpa using q
/-- 0, 1, -1 -/
def cmpI (x y : Int) : Int := (if y < x then 1 else 0) - (if x < y then 1 else 0)
theorem sign_ok (hi : P.fns[i]? = some signFd) (n1 : Num a b) (n2 : Num c d) (q : Q (.int (cmpI (a * d) (c * b))) m) : Wx (run P (k + 1) i [fr a b, fr c d] m) Q X := by
  refine call_f hi rfl ?_
  simp [signFd, start]
  refine Wx_mul (mulOk_left n1.ha) ?_
  try simp
  refine Wx_mul (mulOk_left n2.ha) ?_
  try simp
  unfold cmpI at q
  generalize a * d = u at *
  generalize c * b = v at *
  by_cases h0 : u - v = 0
  · simp [h0]
    have : ¬ (v < u) ∧ ¬ (u < v) := by omega
    simpa [this.1, this.2] using q
  · by_cases h1 : v < u
    · have h2 : ¬ (u < v) := by omega
      have h3 : 0 < u - v := by omega
      simp [h0, h3]
      simpa [h1, h2] using q
    · have h2 : u < v := by omega
      have h3 : ¬ 0 < u - v := by omega
      simp [h0, h3]
      simpa [h1, h2] using q
end
end Ev
set_option linter.all false
set_option maxRecDepth 100000
set_option maxHeartbeats 4000000
set_option exponentiation.threshold 100000
/-! P7: lowest terms, the plain law. -/
namespace Ev
open PySem
theorem sg_mul (m : Int) : sg m * m = (m.natAbs : Int) := by
  unfold sg
  split <;> omega
theorem sg_abs {m : Int} (h : m ≠ 0) (x : Int) : (sg m * x).natAbs = x.natAbs := by
  unfold sg
  split
  · rw [Int.one_mul]
  · rw [Int.neg_mul, Int.one_mul, Int.natAbs_neg]
theorem gd_fac {t b : Int} (hb : b ≠ 0) : ∃ t' b' : Int, t = (gd t b : Nat) * t' ∧ b = (gd t b : Nat) * b' ∧ Nat.gcd t'.natAbs b'.natAbs = 1 := by
  have d1 : ((gd t b : Nat) : Int) ∣ t := Int.ofNat_dvd_left.mpr (Nat.gcd_dvd_left _ _)
  have d2 : ((gd t b : Nat) : Int) ∣ b := Int.ofNat_dvd_left.mpr (Nat.gcd_dvd_right _ _)
  obtain ⟨t', e1⟩ := d1
  obtain ⟨b', e2⟩ := d2
  refine ⟨t', b', e1, e2, ?_⟩
  have hg := gd_pos (t := t) hb
  have h1 : t.natAbs = gd t b * t'.natAbs := by
    have := congrArg Int.natAbs e1
    rwa [Int.natAbs_mul, Int.natAbs_natCast] at this
  have h2 : b.natAbs = gd t b * b'.natAbs := by
    have := congrArg Int.natAbs e2
    rwa [Int.natAbs_mul, Int.natAbs_natCast] at this
  have h3 : gd t b = gd t b * Nat.gcd t'.natAbs b'.natAbs := by
    have : gd t b = Nat.gcd t.natAbs b.natAbs := rfl
    rw [h1, h2, Nat.gcd_mul_left] at this
    exact this
  have h4 : gd t b * Nat.gcd t'.natAbs b'.natAbs = gd t b * 1 := by rw [← h3, Nat.mul_one]
  exact Nat.eq_of_mul_eq_mul_left hg h4
theorem lo_num {t b : Int} (hb : b ≠ 0) (h1 : t.natAbs < 2 ^ 64) (h2 : b.natAbs < 2 ^ 64) : Num (loN t b) (loD t b) := by
  obtain ⟨t', b', e1, e2, hg⟩ := gd_fac (t := t) hb
  have hp := gd_pos (t := t) hb
  have hN : loN t b = sg b * t' := by
    unfold loN
    generalize gd t b = G at e1 e2 hp
    generalize sg b = S
    have : S * t = G * (S * t') := by rw [e1, ← Int.mul_assoc, Int.mul_comm S, Int.mul_assoc]
    rw [this]
    exact Int.mul_ediv_cancel_left _ (by omega)
  have hD : loD t b = sg b * b' := by
    unfold loD
    generalize gd t b = G at e1 e2 hp
    generalize sg b = S
    have : S * b = G * (S * b') := by rw [e2, ← Int.mul_assoc, Int.mul_comm S, Int.mul_assoc]
    rw [this]
    exact Int.mul_ediv_cancel_left _ (by omega)
  have hb' : b' ≠ 0 := fun z => by rw [z, Int.mul_zero] at e2; exact hb e2
  have hs : 0 < sg b * b' := by
    have : sg b = sg b' := by
      unfold sg
      have : 0 < b ↔ 0 < b' := by
        constructor
        · intro h
          generalize gd t b = G at e2 hp
          by_cases z : 0 < b'
          · exact z
          · have : (G : Int) * b' ≤ 0 := Int.mul_nonpos_of_nonneg_of_nonpos (by omega) (by omega)
            omega
        · intro h
          have : 0 < ((gd t b : Nat) : Int) * b' := Int.mul_pos (by omega) h
          omega
      simp only [this]
    rw [this, sg_mul]
    omega
  have na : t'.natAbs ≤ t.natAbs := by
    have : t.natAbs = gd t b * t'.natAbs := by
      have := congrArg Int.natAbs e1
      rwa [Int.natAbs_mul, Int.natAbs_natCast] at this
    rw [this]
    exact Nat.le_mul_of_pos_left _ hp
  have nb : b'.natAbs ≤ b.natAbs := by
    have : b.natAbs = gd t b * b'.natAbs := by
      have := congrArg Int.natAbs e2
      rwa [Int.natAbs_mul, Int.natAbs_natCast] at this
    rw [this]
    exact Nat.le_mul_of_pos_left _ hp
  rw [hN, hD]
  refine ⟨hs, ?_, ?_, ?_⟩
  · unfold gd
    rw [sg_abs hb, sg_abs hb]
    exact hg
  · rw [sg_abs hb]; omega
  · rw [sg_abs hb]; omega
theorem gd_mul (a b m : Int) : gd (a * m) (b * m) = gd a b * m.natAbs := by
  unfold gd
  rw [Int.natAbs_mul, Int.natAbs_mul, Nat.gcd_mul_right]
theorem lo_back {a b m : Int} (n : Num a b) (hm : m ≠ 0) : lo (a * m) (b * m) = fr a b := by
  have hg : gd (a * m) (b * m) = m.natAbs := by rw [gd_mul, n.low, Nat.one_mul]
  have hs : sg (b * m) = sg m := by
    unfold sg
    have : 0 < b * m ↔ 0 < m := ⟨fun h => by
        by_cases z : 0 < m
        · exact z
        · have hb := n.pos
          have : b * m ≤ 0 := Int.mul_nonpos_of_nonneg_of_nonpos (by omega) (by omega)
          omega, fun h => Int.mul_pos n.pos h⟩
    simp only [this]
  have hz : ((m.natAbs : Nat) : Int) ≠ 0 := by omega
  have h1 : loN (a * m) (b * m) = a := by
    unfold loN
    rw [hg, hs, show sg m * (a * m) = a * (sg m * m) by rw [← Int.mul_assoc, Int.mul_comm (sg m) a, Int.mul_assoc], sg_mul]
    exact Int.mul_ediv_cancel _ hz
  have h2 : loD (a * m) (b * m) = b := by
    unfold loD
    rw [hg, hs, show sg m * (b * m) = b * (sg m * m) by rw [← Int.mul_assoc, Int.mul_comm (sg m) b, Int.mul_assoc], sg_mul]
    exact Int.mul_ediv_cancel _ hz
  unfold lo
  rw [h1, h2]
theorem not_num {a b m : Int} (n : Num a b) (hm : 1 < m.natAbs) : isNumD (fr (a * m) (b * m)) = false := by
  have hg : gd (a * m) (b * m) = m.natAbs := by rw [gd_mul, n.low, Nat.one_mul]
  simp only [isNumD, hg, Bool.and_eq_false_iff, decide_eq_false_iff_not]
  exact .inr (by omega)
end Ev
set_option linter.all false
set_option maxRecDepth 100000
set_option maxHeartbeats 4000000
set_option exponentiation.threshold 100000
/-! P8: numbers drawn, items picked. -/
namespace Ev
open PySem
theorem nat_lt {x : Int} (h0 : 0 ≤ x) (h1 : x < 18446744073709551616) : x.natAbs < 2 ^ 64 := by
  have e : (2 : Nat) ^ 64 = 18446744073709551616 := by simp
  rw [e]
  omega
theorem b97 {d : Nat} (h : d < 97) : (10000000000000000000 + (d : Int) * 1000000000).natAbs < 2 ^ 64 := nat_lt (by omega) (by omega)
theorem b89 {d : Nat} (h : d < 89) : (10000000000000000000 - (d : Int) * 100000000).natAbs < 2 ^ 64 := nat_lt (by omega) (by omega)
theorem b89' {d : Nat} (h : d < 89) : (10000000000000000000 - (d : Int) * 100000000) ≠ 0 := by omega
theorem b1 : (1 : Int).natAbs < 2 ^ 64 := nat_lt (by omega) (by omega)
theorem bneg {x : Int} (h : x.natAbs < 2 ^ 64) : (-x).natAbs < 2 ^ 64 := by rw [Int.natAbs_neg]; exact h
theorem b97' {d : Nat} (h : d < 97) : (d : Int).natAbs < 2 ^ 64 := nat_lt (by omega) (by omega)
theorem b89'' {d : Nat} (h : d < 89) : (d : Int).natAbs < 2 ^ 64 := nat_lt (by omega) (by omega)
theorem Scr.grow {m m' : Mem} (h : Scr m) (g : Grow m m') : Scr m' := by
  obtain ⟨ns, e⟩ := h
  refine ⟨ns, ?_⟩
  rcases g.at_ 0 (List.getElem?_eq_some_iff.mp e).1 with z | ⟨z, _⟩
  · rw [z]; exact e
  · rw [e] at z; cases z
theorem Box.lt {m : Mem} {b c : Nat} (h : Box m b c) : b < m.length := by
  obtain ⟨_, _, _, _, hm, _⟩ := h
  exact (List.getElem?_eq_some_iff.mp hm).1
theorem Box.app {m j : Mem} {b c : Nat} (h : Box m b c) : Box (m ++ j) b c := by
  have hl := h.lt
  obtain ⟨x0, f, x2, x3, hm, h⟩ := h
  exact ⟨x0, f, x2, x3, by rw [List.getElem?_append_left hl]; exact hm, h.1, h.2.1, h.2.2.1, h.2.2.2.1, h.2.2.2.2.app⟩
theorem Box.mono {m : Mem} {b c c' : Nat} (h : Box m b c) (hc : c ≤ c') : Box m b c' := by
  obtain ⟨x0, f, x2, x3, hm, h1, h2, h3, h4, hS⟩ := h
  exact ⟨x0, f, x2, x3, hm, h1, h2, h3, by omega, hS⟩
theorem Box.grow {m m' : Mem} {b c : Nat} (h : Box m b c) (g : Grow m m') : Box m' b c := by
  obtain ⟨x0, f, x2, x3, hm, h⟩ := h
  exact ⟨x0, f, x2, x3, g.lst hm, h.1, h.2.1, h.2.2.1, h.2.2.2.1, h.2.2.2.2.grow g⟩
theorem Keep.app {b : Nat} {m j : Mem} : Keep b m (m ++ j) := ⟨by simp, fun a ha _ => List.getElem?_append_left ha⟩
theorem Keep.lst {b : Nat} {m m' : Mem} (k : Keep b m m') {a : Nat} {o : Ob} (ha : m[a]? = some o) (hb : a ≠ b) : m'[a]? = some o := by
  rw [k.at_ a (List.getElem?_eq_some_iff.mp ha).1 hb]; exact ha
theorem idx_mem {a d : Nat} {m : Mem} {xs : List D} {Q : D → Mem → Prop} {X : Nat → List D → Mem → Prop} (hm : m[a]? = some (.lst xs)) (hd : d < xs.length) (q : ∀ x ∈ xs, Q x m) : Wx (idxV (.obj a) (.int (d : Int)) m) Q X := by
  have e : idxV (.obj a) (.int (d : Int)) m = .ok xs[d] m := by
    simp [idxV, seqOf, hm, atIx, hd]
  rw [e]
  exact q _ (List.getElem_mem hd)
theorem at_new {m : Mem} {o : Ob} : (m ++ [o])[m.length]? = some o := by simp
section
variable {P : Prog} {k i tk ll b c : Nat} {m : Mem} {Q : D → Mem → Prop} {X : Nat → List D → Mem → Prop}
/-- _law_pick -/
def pickFd (tk : Nat) : Fd := ⟨2, 2, [.ret (.idx (.var 1) (.call tk [.var 0, .blt .len [.var 1]]))]⟩
theorem pick_ok {a : Nat} {xs : List D} (hi : P.fns[i]? = some (pickFd tk)) (ht : P.fns[tk]? = some takeFd) (hB : Box m b c) (hc : c < 1000000) (ha : m[a]? = some (.lst xs)) (hab : a ≠ b) (h0 : 0 < xs.length) (h1 : xs.length < 2 ^ 31)
    (q : ∀ x ∈ xs, ∀ m', Box m' b (c + 1) → Keep b m m' → Q x m') : Wx (run P (k + 2) i [.obj b, .obj a] m) Q X := by
  refine call_f hi rfl ?_
  have hlen : bltV .len [.obj a] m = .ok (.int xs.length) m := by simp [bltV, ha]
  simp [pickFd, start, hlen]
  refine take_ok ht hB hc h0 h1 fun d m' hd B K hl => ?_
  try simp
  refine idx_mem (K.lst ha hab) hd fun x hx => ?_
  simpa using q x hx m' B K
/-- _law_drawn -/
def drawnFd (tk ll : Nat) : Fd := ⟨1, 4, [
  .asg (.nm 1) (.call tk [.var 0, .lit (.int 6)]),
  .ife (.cmp .lt (.var 1) (.lit (.int 4))) [.ret (.call ll [.idx (.lst [.lit (.int 0), .lit (.int 1), .neg (.lit (.int 1)), .lit (.int 2), .lit (.int 3), .neg (.lit (.int 4)), .lit (.int 6), .lit (.int 7)]) (.call tk [.var 0, .lit (.int 8)]), .idx (.lst [.lit (.int 1), .lit (.int 1), .lit (.int 2), .lit (.int 3), .lit (.int 4), .lit (.int 6)]) (.call tk [.var 0, .lit (.int 6)])])] [],
  .asg (.tup [.nm 2, .nm 3]) (.tup [.op2 .add (.op2 .pow (.lit (.int 10)) (.lit (.int 19))) (.op2 .mul (.call tk [.var 0, .lit (.int 97)]) (.op2 .pow (.lit (.int 10)) (.lit (.int 9)))), .ife (.cmp .eq (.var 1) (.lit (.int 5))) (.op2 .sub (.op2 .pow (.lit (.int 10)) (.lit (.int 19))) (.op2 .mul (.call tk [.var 0, .lit (.int 89)]) (.op2 .pow (.lit (.int 10)) (.lit (.int 8))))) (.lit (.int 1))]),
  .ret (.call ll [.ife (.cmp .eq (.call tk [.var 0, .lit (.int 2)]) (.lit (.int 0))) (.neg (.var 2)) (.var 2), .var 3])]⟩
theorem drawn_ok (hi : P.fns[i]? = some (drawnFd tk ll)) (ht : P.fns[tk]? = some takeFd) (hl : P.fns[ll]? = some lawLowFd) (hB : Box m b c) (hc : c < 900000)
    (q : ∀ t s m', Num t s → Box m' b (c + 4) → Keep b m m' → Q (fr t s) m') : Wx (run P (k + 2) i [.obj b] m) Q X := by
  refine call_f hi rfl ?_
  have two : (2 : Nat) ^ 64 < 2 ^ 2000 := Nat.pow_lt_pow_right (by omega) (by omega)
  have fin : ∀ (t s : Int) m' c' , s ≠ 0 → t.natAbs < 2 ^ 64 → s.natAbs < 2 ^ 64 → Box m' b c' → c' ≤ c + 4 → Keep b m m' → Wx (run P (k + 1) ll [.int t, .int s] m') Q X := fun t s m' c' h0 h1 h2 B hc' K =>
    lawLow_ok hl h0 (by omega) (by omega) (q _ _ m' (lo_num h0 h1 h2) (B.mono hc') K)
  simp only [drawnFd, start, List.map_cons, List.map_nil, List.length_cons, List.length_nil, List.replicate, List.cons_append, List.nil_append, Nat.reduceAdd, Nat.reduceSub]
  rw [evSs_cons, WS_then]
  simp only [evS_asg, evE_call, evEs_cons, evEs_nil, evE_var, evE_lit, List.getElem?_cons_zero, Rs.bind_ok, WS_of, Wx_bind, Wx_ok]
  refine take_ok (n := 6) ht hB (by omega) (by omega) (by omega) fun way m1 hw B1 K1 hl1 => ?_
  simp only [stTg_nm, List.length_cons, List.length_nil, Nat.reduceAdd, Nat.reduceLT, if_true, stThen_some, List.set_cons_succ, List.set_cons_zero, WS_ok, thenQ_next]
  by_cases h4 : (way : Int) < 4
  · rw [evSs_cons, WS_then]
    simp only [evS_ife, evT_eq, evE_cmp, evE_var, evE_lit, List.getElem?_cons_zero, List.getElem?_cons_succ, Rs.bind_ok, cmp_lt_int, tru_bl, h4, decide_true, WS_of, Wx_ok, if_true]
    rw [evSs_cons, WS_then]
    simp only [evS_ret, evE_call, evEs_cons, evEs_nil, evE_idx, evE_lst, evE_neg, negV_int, evE_lit, evE_var, newLst, List.getElem?_cons_zero, Rs.bind_ok, Wx_bind, Wx_ok, WS_of]
    refine take_ok (n := 8) ht B1.app (by omega) (by omega) (by omega) fun d m2 hd B2 K2 hl2 => ?_
    refine idx_mem (K2.lst at_new (Nat.ne_of_gt B1.lt)) (by simpa using hd) fun x hx => ?_
    have hx' : ∃ t : Int, x = .int t ∧ t.natAbs < 2 ^ 64 := by
      simp only [List.mem_cons, List.not_mem_nil, or_false] at hx
      rcases hx with rfl | rfl | rfl | rfl | rfl | rfl | rfl | rfl <;> exact ⟨_, rfl, by decide⟩
    obtain ⟨t, rfl, ht'⟩ := hx'
    refine take_ok (n := 6) ht B2.app (by omega) (by omega) (by omega) fun d3 m3 hd3 B3 K3 hl3 => ?_
    refine idx_mem (K3.lst at_new (Nat.ne_of_gt B2.lt)) (by simpa using hd3) fun y hy => ?_
    have hy' : ∃ s : Int, y = .int s ∧ s ≠ 0 ∧ s.natAbs < 2 ^ 64 := by
      simp only [List.mem_cons, List.not_mem_nil, or_false] at hy
      rcases hy with rfl | rfl | rfl | rfl | rfl | rfl <;> exact ⟨_, rfl, by decide, by decide⟩
    obtain ⟨s, rfl, h0, hs'⟩ := hy'
    refine (fin t s m3 _ h0 ht' hs' B3 (by omega) ((K1.trans (Keep.app.trans K2)).trans (Keep.app.trans K3))).imp (fun d m h => ?_) (fun _ _ _ h => h)
    simpa using h
  · rw [evSs_cons, WS_then]
    simp only [evS_ife, evT_eq, evE_cmp, evE_var, evE_lit, List.getElem?_cons_zero, List.getElem?_cons_succ, Rs.bind_ok, cmp_lt_int, tru_bl, h4, decide_false, Bool.false_eq_true, if_false, WS_of, Wx_ok, evSs_nil, WS_ok, thenQ_next]
    rw [evSs_cons, WS_then]
    simp only [evS_asg, evE_tup, evEs_cons, evEs_nil, evE_op2, evE_lit, evE_call, evE_var, List.getElem?_cons_zero, List.getElem?_cons_succ, Rs.bind_ok, Wx_bind, Wx_ok, WS_of]
    refine Wx_pow ⟨by omega, by omega, by decide⟩ ?_
    refine take_ok (n := 97) ht B1 (by omega) (by omega) (by omega) fun d m2 hd B2 K2 hl2 => ?_
    refine Wx_pow ⟨by omega, by omega, by decide⟩ ?_
    refine Wx_mul (mulOk_left (b97' hd)) ?_
    have e19 : ((10 : Int) ^ (19 : Int).toNat) = 10000000000000000000 := by simp
    have e9 : ((10 : Int) ^ (9 : Int).toNat) = 1000000000 := by simp
    have e8 : ((10 : Int) ^ (8 : Int).toNat) = 100000000 := by simp
    rw [e19, e9]
    simp only [op_add, Wx_ok]
    have last : ∀ (t s : Int) m' c', s ≠ 0 → t.natAbs < 2 ^ 64 → s.natAbs < 2 ^ 64 → Box m' b c' → c' + 1 ≤ c + 4 → Keep b m m' → WS (evSs ⟨run P (k + 1), P.sub, P.fld⟩ none [.ret (.call ll [.ife (.cmp .eq (.call tk [.var 0, .lit (.int 2)]) (.lit (.int 0))) (.neg (.var 2)) (.var 2), .var 3])] [some (.obj b), some (.int way), some (.int t), some (.int s)] m') (retQ Q) (fun c fs _ m => X c fs m) := fun t s m' c' h0 h1 h2 B hc' K => by
      rw [evSs_cons, WS_then]
      simp only [evS_ret, evE_call, evEs_cons, evEs_nil, evE_ife, evE_cmp, evE_lit, evE_var, evE_neg, List.getElem?_cons_zero, List.getElem?_cons_succ, Rs.bind_ok, Wx_bind, Wx_ok, WS_of]
      refine take_ok (n := 2) ht B (by omega) (by omega) (by omega) fun d2 m3 hd2 B3 K3 hl3 => ?_
      simp only [cmp_eq_int, Wx_ok, tru_bl, Wx_ite, negV_int]
      by_cases hz : ((d2 : Int) = 0)
      · simp only [hz, decide_true, if_true]
        refine (fin (-t) s m3 _ h0 (bneg h1) h2 B3 (by omega) (K.trans K3)).imp (fun d m h => ?_) (fun _ _ _ h => h)
        simpa using h
      · simp only [hz, decide_false, Bool.false_eq_true, if_false]
        refine (fin t s m3 _ h0 h1 h2 B3 (by omega) (K.trans K3)).imp (fun d m h => ?_) (fun _ _ _ h => h)
        simpa using h
    by_cases h5 : ((way : Int) = 5)
    · simp only [evE_ife, evE_cmp, evE_op2, evE_call, evEs_cons, evEs_nil, evE_var, evE_lit, List.getElem?_cons_zero, List.getElem?_cons_succ, Rs.bind_ok, Wx_bind, Wx_ok, cmp_eq_int, tru_bl, h5, decide_true, if_true]
      refine Wx_pow ⟨by omega, by omega, by decide⟩ ?_
      refine take_ok (n := 89) ht B2 (by omega) (by omega) (by omega) fun d3 m3 hd3 B3 K3 hl3 => ?_
      refine Wx_pow ⟨by omega, by omega, by decide⟩ ?_
      refine Wx_mul (mulOk_left (b89'' hd3)) ?_
      rw [e19, e8]
      simp only [op_sub, Wx_ok, stTg_tup, stTgs_cons, stTgs_nil, stTg_nm, List.length_cons, List.length_nil, List.length_set, Nat.reduceAdd, Nat.reduceLT, if_true, stThen_some, List.set_cons_succ, List.set_cons_zero, WS_ok, thenQ_next]
      rw [← h5]
      exact last _ _ m3 _ (b89' hd3) (b97 hd) (b89 hd3) B3 (by omega) ((K1.trans K2).trans K3)
    · simp only [evE_ife, evE_cmp, evE_var, evE_lit, List.getElem?_cons_zero, List.getElem?_cons_succ, Rs.bind_ok, Wx_bind, Wx_ok, cmp_eq_int, tru_bl, h5, decide_false, Bool.false_eq_true, if_false]
      simp only [Wx_ok, stTg_tup, stTgs_cons, stTgs_nil, stTg_nm, List.length_cons, List.length_nil, List.length_set, Nat.reduceAdd, Nat.reduceLT, if_true, stThen_some, List.set_cons_succ, List.set_cons_zero, WS_ok, thenQ_next]
      exact last _ _ m2 _ (by decide) (b97 hd) b1 B2 (by omega) (K1.trans K2)
end
end Ev
set_option linter.all false
set_option maxRecDepth 100000
set_option maxHeartbeats 4000000
set_option exponentiation.threshold 100000
/-! P9: wrong values, blamed. -/
namespace Ev
open PySem
/-- what stands is left alone, but at b; an empty dict may have been walked, a list may have got sevens -/
structure Chg (b j : Nat) (m m' : Mem) : Prop where
  le : m.length ≤ m'.length
  at_ : ∀ a, a < m.length → a ≠ b → m'[a]? = m[a]? ∨ (m[a]? = some (.dct []) ∧ m'[a]? = some (.fdc [])) ∨ ∃ xs i, i ≤ j ∧ m[a]? = some (.lst xs) ∧ m'[a]? = some (.lst (xs ++ List.replicate i (.int 7)))
theorem Chg.of_grow {b : Nat} {m m' : Mem} (g : Grow m m') : Chg b 0 m m' := ⟨g.le, fun a ha _ => (g.at_ a ha).imp id fun h => .inl h⟩
theorem Chg.of_keep {b : Nat} {m m' : Mem} (g : Keep b m m') : Chg b 0 m m' := ⟨g.le, fun a ha hb => .inl (g.at_ a ha hb)⟩
theorem Chg.trans {b i j : Nat} {m m1 m2 : Mem} (h : Chg b i m m1) (h' : Chg b j m1 m2) : Chg b (i + j) m m2 := ⟨Nat.le_trans h.le h'.le, fun a ha hb => by
  rcases h.at_ a ha hb with e | ⟨e1, e2⟩ | ⟨xs, n, hn, e1, e2⟩
  · rcases h'.at_ a (Nat.lt_of_lt_of_le ha h.le) hb with e' | ⟨e1', e2'⟩ | ⟨ys, n', hn', e1', e2'⟩
    · exact .inl (e'.trans e)
    · exact .inr (.inl ⟨by rw [← e]; exact e1', e2'⟩)
    · exact .inr (.inr ⟨ys, n', by omega, by rw [← e]; exact e1', e2'⟩)
  · rcases h'.at_ a (Nat.lt_of_lt_of_le ha h.le) hb with e' | ⟨e1', e2'⟩ | ⟨ys, n', hn', e1', e2'⟩
    · exact .inr (.inl ⟨e1, e'.trans e2⟩)
    · rw [e2] at e1'; cases e1'
    · rw [e2] at e1'; cases e1'
  · rcases h'.at_ a (Nat.lt_of_lt_of_le ha h.le) hb with e' | ⟨e1', e2'⟩ | ⟨ys, n', hn', e1', e2'⟩
    · exact .inr (.inr ⟨xs, n, by omega, e1, e'.trans e2⟩)
    · rw [e2] at e1'; cases e1'
    · rw [e2] at e1'
      cases e1'
      refine .inr (.inr ⟨xs, n + n', by omega, e1, ?_⟩)
      rw [e2', List.append_assoc, List.replicate_append_replicate]⟩
theorem Chg.mono {b i j : Nat} {m m' : Mem} (h : Chg b i m m') (hij : i ≤ j) : Chg b j m m' := ⟨h.le, fun a ha hb => (h.at_ a ha hb).imp id fun z => z.imp id fun ⟨xs, n, hn, e⟩ => ⟨xs, n, by omega, e⟩⟩
/-- a value that stands by itself and is no number -/
structure Fix (d : D) : Prop where
  nn : isNumD d = false
  sm : smallD d = true
  same : Sm 4 [] d d
  ok : ∀ m, okD2 d m = true
  nl : ∀ m, tysIs [.list] d m = some false
/-- a wrong value: lists of at most c items -/
def Wr (b c : Nat) (m : Mem) (d : D) : Prop := Fix d ∨ (∃ a xs, d = .obj a ∧ a ≠ b ∧ m[a]? = some (.lst xs) ∧ xs.length ≤ c ∧ ∀ x ∈ xs, ∃ i, x = .int i) ∨ ∃ a, d = .obj a ∧ a ≠ b ∧ (m[a]? = some (.dct []) ∨ m[a]? = some (.fdc []))
theorem Wr.chg {b c j : Nat} {m m' : Mem} {d : D} (h : Wr b c m d) (g : Chg b j m m') : Wr b (c + j) m' d := by
  rcases h with h | ⟨a, xs, rfl, hb, hm, hl, hx⟩ | ⟨a, rfl, hb, hm⟩
  · exact .inl h
  · have ha := (List.getElem?_eq_some_iff.mp hm).1
    rcases g.at_ a ha hb with e | ⟨e1, e2⟩ | ⟨ys, n, hn, e1, e2⟩
    · exact .inr (.inl ⟨a, xs, rfl, hb, by rw [e]; exact hm, by omega, hx⟩)
    · rw [hm] at e1; cases e1
    · rw [hm] at e1
      cases e1
      refine .inr (.inl ⟨a, _, rfl, hb, e2, by simp; omega, fun x hx' => ?_⟩)
      rcases List.mem_append.mp hx' with h | h
      · exact hx x h
      · exact ⟨7, (List.mem_replicate.mp h).2⟩
  · have ha : a < m.length := by rcases hm with h | h <;> exact (List.getElem?_eq_some_iff.mp h).1
    rcases g.at_ a ha hb with e | ⟨e1, e2⟩ | ⟨ys, n, hn, e1, e2⟩
    · exact .inr (.inr ⟨a, rfl, hb, by rw [e]; exact hm⟩)
    · exact .inr (.inr ⟨a, rfl, hb, .inr e2⟩)
    · rcases hm with h | h <;> (rw [h] at e1; cases e1)
theorem grow_nil {m : Mem} : Grow [] m := ⟨Nat.zero_le _, fun a ha => absurd ha (Nat.not_lt_zero a)⟩
theorem ints_all2 {n : Nat} {m : Mem} : ∀ {xs : List D}, (∀ x ∈ xs, ∃ i, x = .int i) → All2 (Sm (n + 1) m) xs xs
  | [], _ => .nil
  | x :: xs, h => by
    obtain ⟨i, rfl⟩ := h x List.mem_cons_self
    exact .cons (.inr (.inr (.inl ⟨i, rfl, rfl⟩))) (ints_all2 fun y hy => h y (List.mem_cons_of_mem _ hy))
theorem Wr.facts {b c : Nat} {m : Mem} {d : D} (h : Wr b c m d) (hc : c ≤ 1000) : isNumD d = false ∧ smallD d = true ∧ okD2 d m = true ∧ Sm 4 m d d := by
  rcases h with h | ⟨a, xs, rfl, hb, hm, hl, hx⟩ | ⟨a, rfl, hb, hm⟩
  · exact ⟨h.nn, h.sm, h.ok m, h.same.grow grow_nil⟩
  · have ha := (List.getElem?_eq_some_iff.mp hm).1
    exact ⟨rfl, rfl, by simp [okD2, okD, ha], .inr (.inr (.inr (.inr (.inr (.inl ⟨a, a, xs, xs, rfl, rfl, hm, hm, by omega, ints_all2 hx⟩)))))⟩
  · have ha : a < m.length := by rcases hm with h | h <;> exact (List.getElem?_eq_some_iff.mp h).1
    exact ⟨rfl, rfl, by simp [okD2, okD, ha], .inr (.inr (.inr (.inr (.inr (.inr ⟨a, rfl, rfl, hm⟩)))))⟩
/-! ### _law_blamed -/
/-- a value that stands by itself -/
structure FixN (d : D) : Prop where
  same : Sm 4 [] d d
  ok : ∀ m, okD2 d m = true
  nl : ∀ m, tysIs [.list] d m = some false
  sm : smallD d = true
theorem Fix.n {d : D} (h : Fix d) : FixN d := ⟨h.same, h.ok, h.nl, h.sm⟩
/-- a value: lists of at most c items -/
def Wq (b c : Nat) (m : Mem) (d : D) : Prop := FixN d ∨ (∃ a xs, d = .obj a ∧ a ≠ b ∧ m[a]? = some (.lst xs) ∧ xs.length ≤ c ∧ ∀ x ∈ xs, ∃ i, x = .int i) ∨ ∃ a, d = .obj a ∧ a ≠ b ∧ (m[a]? = some (.dct []) ∨ m[a]? = some (.fdc []))
theorem Wr.q {b c : Nat} {m : Mem} {d : D} (h : Wr b c m d) : Wq b c m d := h.imp Fix.n id
theorem Wq.chg {b c j : Nat} {m m' : Mem} {d : D} (h : Wq b c m d) (g : Chg b j m m') : Wq b (c + j) m' d := by
  rcases h with h | h
  · exact .inl h
  · rcases (Wr.chg (c := c) (.inr h) g) with z | z
    · exact .inl z.n
    · exact .inr z
theorem Wq.facts {b c : Nat} {m : Mem} {d : D} (h : Wq b c m d) (hc : c ≤ 1000) : smallD d = true ∧ okD2 d m = true ∧ Sm 4 m d d := by
  rcases h with h | h
  · exact ⟨h.sm, h.ok m, h.same.grow grow_nil⟩
  · have := Wr.facts (c := c) (.inr h) hc
    exact this.2
theorem Wq.new {b c a : Nat} {m : Mem} {d : D} (h : Wq b c m d) (ha : m.length ≤ a) : d ≠ .obj a := by
  rintro rfl
  rcases h with h | ⟨a', xs, e, _, hm, _⟩ | ⟨a', e, _, hm⟩
  · have := h.ok []
    simp [okD2, okD] at this
  · cases e
    have := (List.getElem?_eq_some_iff.mp hm).1
    omega
  · cases e
    rcases hm with hm | hm <;> (have := (List.getElem?_eq_some_iff.mp hm).1; omega)
def blamedFd (s : Nat) : Fd := ⟨2, 2, [
  .ife (.not (.call s [.var 0, .var 1])) [.ret (.lit (.bl false))] [],
  .ife (.isi [.list] (.var 1)) [.ex (.mth .append (.var 1) [.lit (.int 7)])] [],
  .ret (.call s [.var 0, .var 1])]⟩
section
variable {P : Prog} {k i s b c : Nat} {m : Mem} {Q : D → Mem → Prop} {X : Nat → List D → Mem → Prop}
/-- what blamed leaves -/
structure Bld (b : Nat) (d : D) (m m' : Mem) : Prop where
  chg : Chg b 1 m m'
  oth : ∀ a xs, m[a]? = some (.lst xs) → d ≠ .obj a → m'[a]? = some (.lst xs)
  box : ∀ c, Box m b c → Box m' b c
theorem blamed_okq (hi : P.fns[i]? = some (blamedFd s)) (hs : P.fns[s]? = some (sameFd s)) {d : D} (h : Wq b c m d) (hc : c < 900) (q : ∀ m', Bld b d m m' → Q (.bl true) m') : Wx (run P (k + 5) i [d, d] m) Q X := by
  refine call_f hi rfl ?_
  simp only [blamedFd, start, List.map_cons, List.map_nil, List.length_cons, List.length_nil, List.replicate, List.cons_append, List.nil_append, Nat.reduceAdd, Nat.reduceSub]
  rw [evSs_cons, WS_then]
  simp only [evS_ife, evT_eq, evE_not, evE_call, evEs_cons, evEs_nil, evE_var, List.getElem?_cons_zero, List.getElem?_cons_succ, Rs.bind_ok, WS_of, Wx_bind, Wx_ok]
  refine same_ok hs 4 _ (by omega) (h.facts (by omega)).2.2 fun m1 g1 => ?_
  simp only [tru_bl, Wx_ok, Bool.not_true, Bool.false_eq_true, if_false, evSs_nil, WS_ok, thenQ_next]
  have h1 : Wq b c m1 d := by have := h.chg (Chg.of_grow g1); simpa using this
  -- the last row
  have last : ∀ m2, Wq b (c + 1) m2 d → Chg b 1 m1 m2 → (∀ c, Box m1 b c → Box m2 b c) → (∀ a xs, m1[a]? = some (.lst xs) → d ≠ .obj a → m2[a]? = some (.lst xs)) → WS (evSs ⟨run P (k + 4), P.sub, P.fld⟩ none [.ret (.call s [.var 0, .var 1])] [some d, some d] m2) (retQ Q) (fun c fs _ m => X c fs m) := fun m2 h2 g2 b2 o2 => by
    rw [evSs_cons, WS_then]
    simp only [evS_ret, evE_call, evEs_cons, evEs_nil, evE_var, List.getElem?_cons_zero, List.getElem?_cons_succ, Rs.bind_ok, WS_of, Wx_bind, Wx_ok]
    refine same_ok hs 4 _ (by omega) (h2.facts (by omega)).2.2 fun m3 g3 => ?_
    simp only [WS_ok, thenQ_ret, retQ_ret]
    refine q m3 ⟨?_, fun a xs h hd => g3.lst (o2 a xs (g1.lst h) hd), fun c' B => (b2 c' (B.grow g1)).grow g3⟩
    have := ((Chg.of_grow g1).trans g2).trans (Chg.of_grow (b := b) g3)
    simpa using this
  rw [evSs_cons, WS_then]
  simp only [evS_ife, evT_eq, evE_isi, evE_var, List.getElem?_cons_zero, List.getElem?_cons_succ, Rs.bind_ok, WS_of, Wx_bind, Wx_ok]
  rcases h1 with hf | ⟨a, xs, rfl, hb, hm, hl, hx⟩ | ⟨a, rfl, hb, hm⟩
  · rw [hf.nl]
    simp only [ofB_some, Wx_ok, tru_bl, Bool.false_eq_true, if_false, evSs_nil, WS_ok, thenQ_next]
    exact last m1 (.inl hf) (Chg.of_grow .refl |>.mono (by omega)) (fun _ B => B) fun _ _ h _ => h
  · have ha := (List.getElem?_eq_some_iff.mp hm).1
    have ht : tysIs [.list] (.obj a) m1 = some true := by simp [tysIs, tyIs, hm]
    rw [ht]
    simp only [ofB_some, Wx_ok, tru_bl, if_true]
    rw [evSs_cons, WS_then]
    have hil : isLst (.obj a) m1 = true := by simp [isLst, hm]
    have hap : mthV .append (.obj a) [.int 7] m1 = .ok .non (m1.set a (.lst (xs ++ [.int 7]))) := by
      simp only [mthV, hm]
      rw [if_pos (by unfold line; omega)]
    simp only [evS_ex, evE_mth, evE_var, evEs_cons, evEs_nil, evE_lit, List.getElem?_cons_zero, List.getElem?_cons_succ, Rs.bind_ok, WS_of, Wx_bind, Wx_ok, hil, if_true, hap, WS_ok, thenQ_next, evSs_nil]
    have g : Chg b 1 m1 (m1.set a (.lst (xs ++ [.int 7]))) := ⟨by simp, fun a' ha' hb' => by
      by_cases e : a = a'
      · subst e
        exact .inr (.inr ⟨xs, 1, Nat.le_refl _, hm, List.getElem?_set_self ha⟩)
      · exact .inl (List.getElem?_set_ne e)⟩
    refine last _ (Wq.chg (c := c) (.inr (.inl ⟨a, xs, rfl, hb, hm, by omega, hx⟩)) g) g (fun c' ⟨x0, f, x2, x3, e, r⟩ => ⟨x0, f, x2, x3, by rw [List.getElem?_set_ne hb]; exact e, r.1, r.2.1, r.2.2.1, r.2.2.2.1, r.2.2.2.2.set hm⟩) fun a' ys h hd => by
      have hne : a ≠ a' := fun z => hd (by rw [z])
      rw [List.getElem?_set_ne hne]
      exact h
  · have ht : tysIs [.list] (.obj a) m1 = some false := by
      rcases hm with h | h <;> simp [tysIs, tyIs, h] <;> rfl
    rw [ht]
    simp only [ofB_some, Wx_ok, tru_bl, Bool.false_eq_true, if_false, evSs_nil, WS_ok, thenQ_next]
    exact last m1 (.inr (.inr ⟨a, rfl, hb, hm⟩)) (Chg.of_grow .refl |>.mono (by omega)) (fun _ B => B) fun _ _ h _ => h
theorem blamed_ok (hi : P.fns[i]? = some (blamedFd s)) (hs : P.fns[s]? = some (sameFd s)) {d : D} (h : Wr b c m d) (hc : c < 900) (q : ∀ m', Bld b d m m' → Q (.bl true) m') : Wx (run P (k + 5) i [d, d] m) Q X := blamed_okq hi hs h.q hc q
end
end Ev
set_option linter.all false
set_option maxRecDepth 100000
set_option maxHeartbeats 4000000
set_option exponentiation.threshold 100000
/-! P10: refused; wrong values drawn. -/
namespace Ev
open PySem
theorem WS_tr {g : Cfg} {cur : Cur} {b : List S} {hs : List (Nat × Option Nat × List S)} {δ : Lc} {m : Mem} {Q : Out → Mem → Prop} {X : Nat → List D → Lc → Mem → Prop} : WS (evS g cur (.tr b hs) δ m) Q X = WS (evSs g cur b δ m) Q (fun c fs δ' m' => WS (evHs g c fs hs δ' m') Q X) := by
  rw [evS_tr]
  cases h : evSs g cur b δ m with
  | ok o m' => rfl
  | exc c fs δ' m' => rfl
  | stuck => rfl
/-- behind a clause's suite -/
def endQ (i : Option Nat) (Q : Out → Mem → Prop) : Out → Mem → Prop
  | .next δ, m => Q (.next (unset i δ)) m
  | .brk δ, m => Q (.brk (unset i δ)) m
  | .cont δ, m => Q (.cont (unset i δ)) m
  | .ret d, m => Q (.ret d) m
theorem WS_endH {i : Option Nat} {r : RS} {Q : Out → Mem → Prop} {X : Nat → List D → Lc → Mem → Prop} (h : WS r (endQ i Q) (fun _ _ _ _ => False)) : WS (endH i r) Q X := by
  cases r with
  | ok o m => cases o <;> exact h
  | exc c fs δ m => exact h
  | stuck => exact h
theorem evHs_yes {g : Cfg} {c h : Nat} {fs : List D} {i : Option Nat} {b : List S} {hs : List (Nat × Option Nat × List S)} {δ : Lc} {m : Mem} {Q : Out → Mem → Prop} {X : Nat → List D → Lc → Mem → Prop} (hsub : g.sub c h = some true) (ho : okSl i δ = true)
    (q : WS (evSs g (some (c, fs)) b (unset i δ) m) (endQ i Q) (fun _ _ _ _ => False)) : WS (evHs g c fs ((h, i, b) :: hs) δ m) Q X := by
  have e : evHs g c fs ((h, i, b) :: hs) δ m = endH i (evSs g (some (c, fs)) b (unset i δ) m) := by
    show (match g.sub c h with
      | some true => (match okSl i δ with
        | true => endH i (evSs g (some (c, fs)) b (unset i δ) m)
        | false => .stuck)
      | some false => evHs g c fs hs δ m
      | none => .stuck) = _
    rw [hsub]
    simp only
    rw [ho]
  rw [e]
  exact WS_endH q
theorem evHs_no {g : Cfg} {c h : Nat} {fs : List D} {i : Option Nat} {b : List S} {hs : List (Nat × Option Nat × List S)} {δ : Lc} {m : Mem} {Q : Out → Mem → Prop} {X : Nat → List D → Lc → Mem → Prop} (hsub : g.sub c h = some false)
    (q : WS (evHs g c fs hs δ m) Q X) : WS (evHs g c fs ((h, i, b) :: hs) δ m) Q X := by
  have e : evHs g c fs ((h, i, b) :: hs) δ m = evHs g c fs hs δ m := by
    show (match g.sub c h with
      | some true => (match okSl i δ with
        | true => endH i (evSs g (some (c, fs)) b (unset i δ) m)
        | false => .stuck)
      | some false => evHs g c fs hs δ m
      | none => .stuck) = _
    rw [hsub]
  rw [e]
  exact q
section
variable {P : Prog} {k i s b c : Nat} {m : Mem} {Q : D → Mem → Prop} {X : Nat → List D → Mem → Prop}
/-- a def that looks at its two numbers first -/
theorem refuse_ok {it ii dv nu ck cc lw cI f : Nat} {fd : Fd} {rest : List S} (N : NumP P it ii dv nu ck cc lw cI) (hf : P.fns[f]? = some fd) (hb : fd.body = .ex (.call cc [.var 0, .var 1]) :: rest) (hn : fd.np = 2) {d e x : D} (hd : okD2 d m = true) (hs : smallD d = true) (he : okD2 e m = true) (hes : smallD e = true)
    (h : (isNumD d = false ∧ x = d) ∨ (isNumD d = true ∧ isNumD e = false ∧ x = e)) (q : X cI [x] m) : Wx (run P (k + 5) f [d, e] m) Q X := by
  refine call_f hf (by rw [hn]; rfl) ?_
  rw [hb, evSs_cons, WS_then]
  have e0 : (start fd [d, e])[0]? = some (some d) := rfl
  have e1 : (start fd [d, e])[1]? = some (some e) := rfl
  simp only [evS_ex, evE_call, evEs_cons, evEs_nil, evE_var, e0, e1, Rs.bind_ok, WS_of, Wx_bind, Wx_ok]
  refine chk2_ok N hd hs he hes (fun h1 h2 => ?_) (fun h1 => ?_) (fun h1 h2 => ?_)
  · rcases h with ⟨h, _⟩ | ⟨_, h, _⟩
    · rw [h] at h1; cases h1
    · rw [h] at h2; cases h2
  · rcases h with ⟨_, rfl⟩ | ⟨h, _⟩
    · exact q
    · rw [h] at h1; cases h1
  · rcases h with ⟨h, _⟩ | ⟨_, _, rfl⟩
    · rw [h] at h1; cases h1
    · exact q
def refFd (bl cI cT : Nat) : Fd := ⟨4, 5, [.tr [
    .ex (.callv (.var 0) [.var 1, .var 2]),
    .ret (.lit (.bl false))] [(cI, some 4, [.ret (.call bl [.cf 0, .var 3])]), (cT, none, [.ret (.lit (.bl false))])]]⟩
theorem refused_ok {bl cI cT f : Nat} {one other due : D} (hi : P.fns[i]? = some (refFd bl cI cT)) (hbl : P.fns[bl]? = some (blamedFd s)) (hs : P.fns[s]? = some (sameFd s)) (hsub : P.sub cI cI = some true) (hfl : P.fld cI = some 0)
    (hcall : ∀ (Q' : D → Mem → Prop) (X' : Nat → List D → Mem → Prop), X' cI [due] m → Wx (run P (k + 5) f [one, other] m) Q' X') (h : Wr b c m due) (hc : c < 900) (q : ∀ m', Bld b due m m' → Q (.bl true) m') : Wx (run P (k + 6) i [.fn f, one, other, due] m) Q X := by
  refine call_f hi rfl ?_
  simp only [refFd, start, List.map_cons, List.map_nil, List.length_cons, List.length_nil, List.replicate, List.cons_append, List.nil_append, Nat.reduceAdd, Nat.reduceSub]
  rw [evSs_cons, WS_then, WS_tr, evSs_cons, WS_then]
  simp only [evS_ex, evE_callv, evEs_cons, evEs_nil, evE_var, List.getElem?_cons_zero, List.getElem?_cons_succ, Rs.bind_ok, WS_of, Wx_bind, Wx_ok]
  refine hcall _ _ ?_
  refine evHs_yes hsub (by simp [okSl]) ?_
  rw [evSs_cons, WS_then]
  have hcf : cfV ⟨run P (k + 5), P.sub, P.fld⟩ (some (cI, [due])) 0 = some due := by
    show (if P.fld cI = some 0 then some due else none) = _
    rw [if_pos hfl]
  simp only [unset, List.set_cons_succ, List.set_cons_zero, evS_ret, evE_call, evEs_cons, evEs_nil, evE_cf, hcf, evE_var, List.getElem?_cons_zero, List.getElem?_cons_succ, Rs.bind_ok, WS_of, Wx_bind, Wx_ok]
  refine blamed_ok hbl hs h hc fun m' B => ?_
  simpa [endQ] using q m' B
/-! ### wrong values -/
def wrongFd (pk : Nat) : Fd := ⟨1, 2, [
  .asg (.nm 1) (.lst [.tup [.lit (.int 2), .lit (.int 4)], .tup [.lit (.int 0), .lit (.int 2)], .tup [.lit (.int 1), .lit (.int 0)], .tup [.lit (.int 1), .neg (.lit (.int 2))], .lst [.lit (.int 1), .lit (.int 2)], .tup [.lit (.int 1)], .tup [.lit (.int 1), .lit (.int 2), .lit (.int 3)], .lit (.int 1), .lit (.bl true), .lit .non, .lit (.str "1"), .tup [.lit (.bl true), .lit (.int 1)], .tup [.lit (.int 1), .lit (.bl true)], .tup [.tup [.lit (.int 1)], .lit (.int 2)], .tup [], .lst [], .dct0, .tup [.lit (.int 0), .lit (.int 0)], .tup [.lit (.str "1"), .lit (.int 2)]]),
  .ret (.call pk [.var 0, .var 1])]⟩
theorem fix_int {i : Int} : Fix (.int i) := ⟨rfl, rfl, .inr (.inr (.inl ⟨_, rfl, rfl⟩)), fun _ => rfl, fun _ => rfl⟩
theorem fix_bl {i : Bool} : Fix (.bl i) := ⟨rfl, rfl, .inr (.inl ⟨_, rfl, rfl⟩), fun _ => rfl, fun _ => rfl⟩
theorem fix_non : Fix .non := ⟨rfl, rfl, .inl ⟨rfl, rfl⟩, fun _ => rfl, fun _ => rfl⟩
theorem fix_str {s : Str} (h : SeqAt.shaped (.str s) = true) : Fix (.str s) := ⟨rfl, rfl, .inr (.inr (.inr (.inl ⟨_, rfl, rfl, h⟩))), fun _ => rfl, fun _ => rfl⟩
theorem fix_tup {xs : List D} (h1 : isNumD (.tup xs) = false) (h2 : smallD (.tup xs) = true) (hl : xs.length ≤ 1000) (h3 : ∀ x ∈ xs, Sm 3 [] x x ∧ ∀ m, okD x m = true) : Fix (.tup xs) := by
  refine ⟨h1, h2, .inr (.inr (.inr (.inr (.inl ⟨xs, xs, rfl, rfl, hl, ?_⟩)))), fun m => ?_, fun _ => rfl⟩
  · clear h1 h2 hl
    induction xs with
    | nil => exact .nil
    | cons x xs ih => exact .cons (h3 x List.mem_cons_self).1 (ih fun y hy => h3 y (List.mem_cons_of_mem _ hy))
  · simp only [okD2, okD, Bool.true_and, List.all_eq_true]
    exact fun x hx => (h3 x hx).2 m
theorem sm_int {n : Nat} {m : Mem} {i : Int} : Sm (n + 1) m (.int i) (.int i) := .inr (.inr (.inl ⟨_, rfl, rfl⟩))
theorem sm_bl {n : Nat} {m : Mem} {i : Bool} : Sm (n + 1) m (.bl i) (.bl i) := .inr (.inl ⟨_, rfl, rfl⟩)
theorem it_int {i : Int} : Sm 3 [] (.int i) (.int i) ∧ ∀ m, okD (.int i) m = true := ⟨sm_int, fun _ => rfl⟩
theorem it_bl {i : Bool} : Sm 3 [] (.bl i) (.bl i) ∧ ∀ m, okD (.bl i) m = true := ⟨sm_bl, fun _ => rfl⟩
theorem s1 : SeqAt.shaped (.str "1") = true := by decide +kernel
theorem it_s1 : Sm 3 [] (.str "1") (.str "1") ∧ ∀ m, okD (.str "1") m = true := ⟨.inr (.inr (.inr (.inl ⟨_, rfl, rfl, s1⟩))), fun _ => rfl⟩
theorem it_t1 : Sm 3 [] (.tup [.int 1]) (.tup [.int 1]) ∧ ∀ m, okD (.tup [.int 1]) m = true := ⟨.inr (.inr (.inr (.inr (.inl ⟨_, _, rfl, rfl, by simp, .cons sm_int .nil⟩)))), fun _ => rfl⟩
theorem all0 {p : D → Prop} : ∀ x ∈ ([] : List D), p x := fun x h => by cases h
theorem allc {p : D → Prop} {y : D} {ys : List D} (h : p y) (t : ∀ x ∈ ys, p x) : ∀ x ∈ y :: ys, p x := fun x hx => by
  rcases List.mem_cons.mp hx with rfl | hx
  · exact h
  · exact t x hx
theorem fix_ii {a b : Int} (h : isNumD (.tup [.int a, .int b]) = false) (h2 : smallD (.tup [.int a, .int b]) = true) : Fix (.tup [.int a, .int b]) := fix_tup h h2 (by simp) (allc it_int (allc it_int all0))
theorem wrong_all {b : Nat} {m : Mem} (hb : b < m.length) (a1 a2 a3 : Nat) (h1 : m.length ≤ a1) (h2 : m.length ≤ a2) (h3 : m.length ≤ a3) {m' : Mem} (e1 : m'[a1]? = some (.lst [.int 1, .int 2])) (e2 : m'[a2]? = some (.lst [])) (e3 : m'[a3]? = some (.dct [])) :
    ∀ x ∈ [D.tup [.int 2, .int 4], .tup [.int 0, .int 2], .tup [.int 1, .int 0], .tup [.int 1, .int (-2)], .obj a1, .tup [.int 1], .tup [.int 1, .int 2, .int 3], .int 1, .bl true, .non, .str "1", .tup [.bl true, .int 1], .tup [.int 1, .bl true], .tup [.tup [.int 1], .int 2], .tup [], .obj a2, .obj a3, .tup [.int 0, .int 0], .tup [.str "1", .int 2]], Wr b 10 m' x := by
  refine allc (.inl (fix_ii (by decide) (by simp [smallD]))) (allc (.inl (fix_ii (by decide) (by simp [smallD]))) (allc (.inl (fix_ii (by decide) (by simp [smallD]))) (allc (.inl (fix_ii (by decide) (by simp [smallD]))) (allc (.inr (.inl ⟨a1, _, rfl, by omega, e1, by simp, allc ⟨_, rfl⟩ (allc ⟨_, rfl⟩ all0)⟩)) ?_))))
  refine allc (.inl (fix_tup rfl rfl (by simp) (allc it_int all0))) (allc (.inl (fix_tup rfl rfl (by simp) (allc it_int (allc it_int (allc it_int all0))))) (allc (.inl fix_int) (allc (.inl fix_bl) (allc (.inl fix_non) (allc (.inl (fix_str s1)) ?_)))))
  refine allc (.inl (fix_tup rfl rfl (by simp) (allc it_bl (allc it_int all0)))) (allc (.inl (fix_tup rfl rfl (by simp) (allc it_int (allc it_bl all0)))) (allc (.inl (fix_tup rfl rfl (by simp) (allc it_t1 (allc it_int all0)))) (allc (.inl (fix_tup rfl rfl (by simp) all0)) ?_)))
  refine allc (.inr (.inl ⟨a2, _, rfl, by omega, e2, by simp, all0⟩)) (allc (.inr (.inr ⟨a3, rfl, by omega, .inl e3⟩)) (allc (.inl (fix_ii (by decide) (by simp [smallD]))) (allc (.inl (fix_tup rfl rfl (by simp) (allc it_s1 (allc it_int all0)))) all0)))
theorem wrong_ok {pk tk : Nat} (hi : P.fns[i]? = some (wrongFd pk)) (hp : P.fns[pk]? = some (pickFd tk)) (ht : P.fns[tk]? = some takeFd) (hB : Box m b c) (hc : c < 900000)
    (q : ∀ d m', Wr b 10 m' d → Box m' b (c + 1) → Keep b m m' → Q d m') : Wx (run P (k + 3) i [.obj b] m) Q X := by
  refine call_f hi rfl ?_
  have hbl := hB.lt
  simp [wrongFd, start, newLst]
  have hm4 : ∀ (o : Ob), (m ++ [Ob.lst [.int 1, .int 2], .lst [], .dct [], o])[m.length + 3]? = some o := fun o => by simp
  refine pick_ok hp ht hB.app (by omega) (hm4 _) (by omega) (by simp) (by simp) fun x hx m' B K => ?_
  have hw := wrong_all hbl m.length (m.length + 1) (m.length + 1 + 1) (Nat.le_refl _) (by omega) (by omega) (m' := m ++ [Ob.lst [.int 1, .int 2], .lst [], .dct [], .lst [D.tup [.int 2, .int 4], .tup [.int 0, .int 2], .tup [.int 1, .int 0], .tup [.int 1, .int (-2)], .obj m.length, .tup [.int 1], .tup [.int 1, .int 2, .int 3], .int 1, .bl true, .non, .str "1", .tup [.bl true, .int 1], .tup [.int 1, .bl true], .tup [.tup [.int 1], .int 2], .tup [], .obj (m.length + 1), .obj (m.length + 1 + 1), .tup [.int 0, .int 0], .tup [.str "1", .int 2]]]) (by simp) (by simp) (by rw [show m.length + 1 + 1 = m.length + 2 from rfl]; simp) x hx
  exact q x m' (by simpa using hw.chg (Chg.of_keep K)) B (Keep.app.trans K)
end
end Ev
set_option linter.all false
set_option maxRecDepth 100000
set_option maxHeartbeats 4000000
set_option exponentiation.threshold 100000
/-! P11: fraction; the five operations. -/
namespace Ev
open PySem
section
variable {P : Prog} {k i it ii dv nu ck cc lw cI : Nat} {m : Mem} {Q : D → Mem → Prop} {X : Nat → List D → Mem → Prop}
def fracFd (ii lw cT cB : Nat) : Fd := ⟨2, 2, [
  .ife (.not (.call ii [.var 0])) [.rais cT [.var 0]] [],
  .ife (.or (.not (.call ii [.var 1])) (.cmp .eq (.var 1) (.lit (.int 0)))) [.rais cB [.var 1]] [],
  .ret (.call lw [.var 0, .var 1])]⟩
theorem frac_ok {cT cB : Nat} (N : NumP P it ii dv nu ck cc lw cI) (hi : P.fns[i]? = some (fracFd ii lw cT cB)) {t b : Int} (hb : b ≠ 0) (h1 : t.natAbs < 2 ^ 2000) (h2 : b.natAbs < 2 ^ 2000) (q : Q (lo t b) m) : Wx (run P (k + 3) i [.int t, .int b] m) Q X := by
  refine call_f hi rfl ?_
  simp [fracFd, start]
  refine isInt_ok N.hii rfl ?_
  simp [isIntD]
  refine isInt_ok N.hii rfl ?_
  simp [isIntD, hb]
  refine low_ok N.hlw N.hdv hb h1 h2 ?_
  simpa using q
theorem frac_top {cT cB : Nat} (N : NumP P it ii dv nu ck cc lw cI) (hi : P.fns[i]? = some (fracFd ii lw cT cB)) {d e : D} (hd : okD d m = true) (hn : isIntD d = false) (x : X cT [d] m) : Wx (run P (k + 3) i [d, e] m) Q X := by
  refine call_f hi rfl ?_
  simp [fracFd, start]
  refine isInt_ok N.hii hd ?_
  simpa [hn] using x
theorem frac_base {cT cB : Nat} (N : NumP P it ii dv nu ck cc lw cI) (hi : P.fns[i]? = some (fracFd ii lw cT cB)) {t : Int} {e : D} (he : okD e m = true) (hn : isIntD e = false ∨ e = .int 0) (x : X cB [e] m) : Wx (run P (k + 3) i [.int t, e] m) Q X := by
  refine call_f hi rfl ?_
  simp [fracFd, start]
  refine isInt_ok N.hii rfl ?_
  simp [isIntD]
  refine isInt_ok N.hii he ?_
  rcases hn with hn | rfl
  · simpa [hn] using x
  · simpa [isIntD] using x
def opFd (cc f : Nat) : Fd := ⟨2, 2, [
  .ex (.call cc [.var 0, .var 1]),
  .ret (.call f [.var 0, .var 1])]⟩
theorem op_ok {f : Nat} (N : NumP P it ii dv nu ck cc lw cI) (hi : P.fns[i]? = some (opFd cc f)) {a b c d : Int} (n1 : Num a b) (n2 : Num c d) (h : Wx (run P (k + 4) f [fr a b, fr c d] m) Q X) : Wx (run P (k + 5) i [fr a b, fr c d] m) Q X := by
  refine call_f hi rfl ?_
  simp [opFd, start]
  refine chk2_ok N fr_ok n1.sm fr_ok n2.sm (fun _ _ => ?_) (fun h => ?_) (fun _ h => ?_)
  · simpa using h
  · rw [n1.is] at h; cases h
  · rw [n2.is] at h; cases h
def dvdFd (cc f cZ : Nat) : Fd := ⟨2, 2, [
  .ex (.call cc [.var 0, .var 1]),
  .ife (.cmp .eq (.idx (.var 1) (.lit (.int 0))) (.lit (.int 0))) [.rais cZ []] [],
  .ret (.call f [.var 0, .var 1])]⟩
theorem dvd_ok {f cZ : Nat} (N : NumP P it ii dv nu ck cc lw cI) (hi : P.fns[i]? = some (dvdFd cc f cZ)) {a b c d : Int} (n1 : Num a b) (n2 : Num c d) (h : c ≠ 0 → Wx (run P (k + 4) f [fr a b, fr c d] m) Q X) (h0 : c = 0 → X cZ [] m) : Wx (run P (k + 5) i [fr a b, fr c d] m) Q X := by
  refine call_f hi rfl ?_
  simp [dvdFd, start]
  refine chk2_ok N fr_ok n1.sm fr_ok n2.sm (fun _ _ => ?_) (fun h => ?_) (fun _ h => ?_)
  · try simp
    by_cases hc : c = 0
    · simpa [hc] using h0 hc
    · simpa [hc] using h hc
  · rw [n1.is] at h; cases h
  · rw [n2.is] at h; cases h
/-! ### the same by _law_same -/
theorem sm_fr {n : Nat} {m : Mem} {a b : Int} : Sm (n + 2) m (fr a b) (fr a b) := .inr (.inr (.inr (.inr (.inl ⟨_, _, rfl, rfl, by simp, .cons sm_int (.cons sm_int .nil)⟩))))
end
end Ev
set_option linter.all false
set_option maxRecDepth 100000
set_option maxHeartbeats 4000000
set_option exponentiation.threshold 100000
/-! K00b: the law k00 by the evaluator. -/
namespace K00
open Ev
@[irreducible] def P : Prog := L.pr
theorem Pd : P = L.pr := by unfold P; rfl
theorem N : NumP P 1 0 2 5 6 7 3 1 := by rw [Pd]; exact ⟨rfl, rfl, rfl, rfl, rfl, rfl, rfl⟩
theorem tk : P.fns[20]? = some takeFd := by rw [Pd]; rfl
theorem pk : P.fns[21]? = some (pickFd 20) := by rw [Pd]; rfl
theorem ll : P.fns[22]? = some lawLowFd := by rw [Pd]; rfl
theorem sm : P.fns[23]? = some (sameFd 23) := by rw [Pd]; rfl
theorem bl : P.fns[24]? = some (blamedFd 23) := by rw [Pd]; rfl
theorem dr : P.fns[25]? = some (drawnFd 20 22) := by rw [Pd]; rfl
theorem wr : P.fns[26]? = some (wrongFd 21) := by rw [Pd]; rfl
theorem rf : P.fns[29]? = some (refFd 24 1 4) := by rw [Pd]; rfl
theorem fc : P.fns[4]? = some (fracFd 0 3 2 0) := by rw [Pd]; rfl
theorem ad : P.fns[13]? = some (opFd 7 8) := by rw [Pd]; rfl
theorem su : P.fns[14]? = some (opFd 7 9) := by rw [Pd]; rfl
theorem mu : P.fns[15]? = some (opFd 7 10) := by rw [Pd]; rfl
theorem dd : P.fns[16]? = some (dvdFd 7 11 3) := by rw [Pd]; rfl
theorem co : P.fns[17]? = some (opFd 7 12) := by rw [Pd]; rfl
theorem sf : P.fns[8]? = some (sumFd 3) := by rw [Pd]; rfl
theorem lf : P.fns[9]? = some (lessFd 3) := by rw [Pd]; rfl
theorem pf : P.fns[10]? = some (prodFd 3) := by rw [Pd]; rfl
theorem shf : P.fns[11]? = some (shareFd 3) := by rw [Pd]; rfl
theorem sgf : P.fns[12]? = some signFd := by rw [Pd]; rfl
theorem sm2 {m : Mem} {t s : Int} : Sm 2 m (fr t s) (fr t s) := sm_fr (n := 0)
theorem same_gen {k : Nat} {m : Mem} {x y : D} {n : Nat} (hn : n ≤ k) (h : Sm n m x y) : Wx (run P k 23 [x, y] m) (fun d m1 => d = .bl true ∧ Grow m m1) NX := by
  refine same_ok sm n k hn h ?_
  exact fun m1 g1 => ⟨rfl, g1⟩
theorem same_fr {k : Nat} {m : Mem} {t s : Int} : Wx (run P (k + 8) 23 [fr t s, fr t s] m) (fun d m1 => d = .bl true ∧ Grow m m1) NX := by
  have h : Sm 2 m (fr t s) (fr t s) := sm2
  generalize fr t s = F at h ⊢
  exact same_gen (by omega) h
theorem same_bl {k : Nat} {m : Mem} {v : Bool} : Wx (run P (k + 8) 23 [.bl v, .bl v] m) (fun d m1 => d = .bl true ∧ Grow m m1) NX := by
  have h : Sm 1 m (.bl v) (.bl v) := sm_bl (n := 0)
  generalize D.bl v = F at h ⊢
  exact same_gen (by omega) h
theorem same_int {k : Nat} {m : Mem} {v : Int} : Wx (run P (k + 8) 23 [.int v, .int v] m) (fun d m1 => d = .bl true ∧ Grow m m1) NX := by
  have h : Sm 1 m (.int v) (.int v) := sm_int (n := 0)
  generalize D.int v = F at h ⊢
  exact same_gen (by omega) h
end K00
set_option linter.all false
set_option maxRecDepth 100000
set_option maxHeartbeats 4000000
set_option exponentiation.threshold 100000
/-! K00c: _law_fractions_right. -/
namespace K00
open Ev
section
variable {k b c : Nat} {m : Mem} {Q : D → Mem → Prop} {X : Nat → List D → Mem → Prop}
theorem natAbs_mul_le {x y : Int} {p q : Nat} (hx : x.natAbs < p) (hy : y.natAbs ≤ q) : (x * y).natAbs ≤ p * q := by
  rw [Int.natAbs_mul]
  exact Nat.mul_le_mul (Nat.le_of_lt hx) hy
theorem b2000 : (2 : Nat) ^ 64 * 10 < 2 ^ 2000 := by
  have : (2 : Nat) ^ 64 * 10 ≤ 2 ^ 68 := by decide
  have h2 : (2 : Nat) ^ 68 < 2 ^ 2000 := Nat.pow_lt_pow_right (by omega) (by omega)
  omega
/-- a turn, behind the choice of much -/
theorem frac_turn {g : Cfg} (hg : g.call = run P (k + 8)) {n : Bool} {t s w : Int} {x2 : Option D} {x5 x6 x7 : Option D} (nu : Num t s) (hw : w ≠ 0) (hw2 : w.natAbs ≤ 10) (hB : Box m b c) {QS : Out → Mem → Prop} {XS : Nat → List D → Lc → Mem → Prop}
    (q : ∀ m', Box m' b c → QS (.next [some (.obj b), some (.bl n), x2, some (fr t s), some (.int w), some (.int (t * w)), some (.int (s * w)), x7]) m') :
    WS (evSs g none [
      .asg (.tup [.nm 5, .nm 6]) (.tup [.op2 .mul (.idx (.var 3) (.lit (.int 0))) (.var 4), .op2 .mul (.idx (.var 3) (.lit (.int 1))) (.var 4)]),
      .ife (.or (.not (.call 23 [.ife (.var 1) (.callk 4 [0, 1] [.var 5, .var 6]) (.call 4 [.var 5, .var 6]), .var 3])) (.not (.call 23 [.call 5 [.var 3], .lit (.bl true)]))) [.ret (.lit (.bl false))] [],
      .ife (.and (.cmp .gt (.blt .abs [.var 4]) (.lit (.int 1))) (.not (.call 23 [.callk 5 [0] [.tup [.var 5, .var 6]], .lit (.bl false)]))) [.ret (.lit (.bl false))] []]
      [some (.obj b), some (.bl n), x2, some (fr t s), some (.int w), x5, x6, x7] m) QS XS := by
  have e1 := natAbs_mul_le nu.ha hw2
  have e2 := natAbs_mul_le nu.hb hw2
  have hb2 := b2000
  have hs0 : s * w ≠ 0 := Int.mul_ne_zero (Int.ne_of_gt nu.pos) hw
  have lob := lo_back nu hw
  rw [evSs_cons, WS_then]
  simp only [evS_asg, evE_tup, evEs_cons, evEs_nil, evE_op2, evE_idx, evE_var, evE_lit, List.getElem?_cons_zero, List.getElem?_cons_succ, Rs.bind_ok, idx0, idx1, WS_of, Wx_bind, Wx_ok]
  refine Wx_mul (mulOk_left nu.ha) ?_
  refine Wx_mul (mulOk_left nu.hb) ?_
  simp only [stTg_tup, stTgs_cons, stTgs_nil, stTg_nm, List.length_cons, List.length_nil, List.length_set, Nat.reduceAdd, Nat.reduceLT, if_true, stThen_some, List.set_cons_succ, List.set_cons_zero, WS_ok, thenQ_next]
  rw [evSs_cons, WS_then]
  simp only [evS_ife, evT_eq, evE_or, evE_not, evE_call, evEs_cons, evEs_nil, evE_ife, evE_callk, evE_var, evE_lit, List.getElem?_cons_zero, List.getElem?_cons_succ, Rs.bind_ok, tru_bl, WS_of, Wx_bind, Wx_ok, hg, Wx_ite]
  have hpick : pick [0, 1] [D.int (t * w), D.int (s * w)] = some [.int (t * w), .int (s * w)] := rfl
  have hpick1 : pick [0] [fr (t * w) (s * w)] = some [fr (t * w) (s * w)] := rfl
  rw [hpick]
  simp only [ite_self]
  refine frac_ok (k := k + 5) N fc hs0 (by omega) (by omega) ?_
  rw [lob]
  refine same_fr.nx fun d1 m1 h1 => ?_
  obtain ⟨rfl, g1⟩ := h1
  simp only [tru_bl, Wx_ok, Bool.not_true, Bool.false_eq_true, if_false]
  refine isNum_ok (k := k + 6) N.hnu N.hit N.hii N.hdv fr_ok nu.sm ?_
  rw [nu.is]
  refine same_bl.nx fun d2 m2 h2 => ?_
  obtain ⟨rfl, g2⟩ := h2
  simp only [tru_bl, Wx_ok, Bool.not_true, Bool.false_eq_true, if_false, evSs_nil, WS_ok, thenQ_next]
  have B2 : Box m2 b c := (hB.grow g1).grow g2
  rw [evSs_cons, WS_then]
  simp only [evS_ife, evT_eq, evE_and, evE_not, evE_call, evEs_cons, evEs_nil, evE_cmp, evE_blt, evE_callk, evE_tup, evE_var, evE_lit, List.getElem?_cons_zero, List.getElem?_cons_succ, Rs.bind_ok, blt_abs, cmp_gt_int, tru_bl, WS_of, Wx_bind, Wx_ok, hg, Wx_ite]
  by_cases h1 : (1 : Int) < (w.natAbs : Int)
  · simp only [h1, decide_true, if_true]
    have sml : smallD (fr (t * w) (s * w)) = true := by
      simp only [smallD, Bool.and_eq_true, decide_eq_true_eq]
      omega
    have hpick2 : pick [0] [D.tup [.int (t * w), .int (s * w)]] = some [fr (t * w) (s * w)] := rfl
    rw [hpick2]
    refine isNum_ok (k := k + 6) N.hnu N.hit N.hii N.hdv fr_ok sml ?_
    rw [not_num nu (by omega)]
    refine same_bl.nx fun d3 m3 h3 => ?_
    obtain ⟨rfl, g3⟩ := h3
    simp only [tru_bl, Wx_ok, Bool.not_true, Bool.false_eq_true, if_false, evSs_nil, WS_ok, thenQ_next]
    exact q m3 (B2.grow g3)
  · simp only [h1, decide_false, Bool.false_eq_true, if_false, tru_bl, Wx_ok, evSs_nil, WS_ok, thenQ_next]
    exact q m2 B2
theorem f27_eq : P.fns[27]? = some f27 := by rw [Pd]; rfl
/-- two items of a literal list, one chosen -/
theorem choose {g : Cfg} {cur : Cur} {δ : Lc} {xs : List D} {es : List E} {n : Nat} (hes : ∀ m, evEs g cur δ es m = .ok xs m) (hl : xs.length = n) (hn : 0 < n) (hn2 : n < 2 ^ 31) (hg : g.call = run P (k + 8)) (h0 : δ[0]? = some (some (.obj b))) (hB : Box m b c) (hc : c < 1000000)
    (q : ∀ x ∈ xs, ∀ m', Box m' b (c + 1) → Q x m') : Wx (evE g cur δ (.idx (.lst es) (.call 20 [.var 0, .lit (.int n)])) m) Q X := by
  simp only [evE_idx, evE_lst, hes, newLst, evE_call, evEs_cons, evEs_nil, evE_var, evE_lit, h0, Rs.bind_ok, Wx_bind, Wx_ok, hg]
  refine take_ok (k := k + 7) (n := n) tk hB.app hc hn hn2 fun d m' hd B K hl' => ?_
  exact idx_mem (K.lst at_new (Nat.ne_of_gt hB.lt)) (by omega) fun x hx => q x hx m' B
def mx (a b : Int) : Int := if b > a then b else a
theorem blt_max2 {a b : Int} {m : Mem} : bltV .max2 [.int a, .int b] m = .ok (.int (mx a b)) m := rfl
theorem fractions_ok {n : Bool} (hB : Box m b c) (hc : c < 800000) (q : ∀ m', Box m' b (c + 20) → Q (.bl true) m') : Wx (run P (k + 9) 27 [.obj b, .bl n] m) Q X := by
  refine call_f f27_eq rfl ?_
  simp only [f27, start, List.map_cons, List.map_nil, List.length_cons, List.length_nil, List.replicate, List.cons_append, List.nil_append, Nat.reduceAdd, Nat.reduceSub]
  rw [evSs_cons, WS_then]
  have hr : r1V (.int 3) m = .ok (.con [.int 0, .int 1, .int 2]) m := rfl
  simp only [evS_for, evIt_r1, evE_lit, Rs.bind_ok, hr, WS_of, Wx_ok]
  simp only [walkF]
  refine for_ok (fun ds δ m' => ds.length ≤ 3 ∧ Box m' b (c + 6 * (3 - ds.length)) ∧ ∃ x2 x3 x4 x5 x6 x7, δ = [some (.obj b), some (.bl n), x2, x3, x4, x5, x6, x7]) (fun d ds δ m' hI => ?_) (fun δ m' hI => ?_) _ _ _ ⟨by simp, by simpa using hB, _, _, _, _, _, _, rfl⟩
  · obtain ⟨hl, B, x2, x3, x4, x5, x6, x7, rfl⟩ := hI
    simp only [List.length_cons] at hl B
    have hc' : c + 6 * (3 - (ds.length + 1)) + 6 = c + 6 * (3 - ds.length) := by omega
    have hlt : c + 6 * (3 - (ds.length + 1)) < 900000 := by omega
    generalize c + 6 * (3 - (ds.length + 1)) = c1 at B hc' hlt
    simp only [stTg_nm, List.length_cons, List.length_nil, Nat.reduceAdd, Nat.reduceLT, if_true, stThen_some, List.set_cons_succ, List.set_cons_zero]
    rw [evSs_cons, WS_then]
    simp only [evS_asg, evE_tup, evEs_cons, evEs_nil, evE_call, evE_var, List.getElem?_cons_zero, Rs.bind_ok, WS_of, Wx_bind, Wx_ok]
    refine drawn_ok (k := k + 6) dr tk ll B (by omega) fun t s m1 nu B1 K1 => ?_
    refine choose (k := k) (n := 5) (xs := [.int 1, .int 2, .int (-1), .int (-6), .int 10]) (fun m => by simp) rfl (by omega) (by omega) rfl rfl B1 (by omega) fun x hx m2 B2 => ?_
    have hx' : ∃ w : Int, x = .int w ∧ w ≠ 0 ∧ w.natAbs ≤ 10 := by
      simp only [List.mem_cons, List.not_mem_nil, or_false] at hx
      rcases hx with rfl | rfl | rfl | rfl | rfl <;> exact ⟨_, rfl, by decide, by decide⟩
    obtain ⟨w, rfl, hw, hw2⟩ := hx'
    simp only [Wx_ok, stTg_tup, stTgs_cons, stTgs_nil, stTg_nm, List.length_cons, List.length_nil, List.length_set, Nat.reduceAdd, Nat.reduceLT, if_true, stThen_some, List.set_cons_succ, List.set_cons_zero, WS_ok, thenQ_next]
    have fin : ∀ (w : Int) m3 c3, w ≠ 0 → w.natAbs ≤ 10 → Box m3 b c3 → c3 ≤ c1 + 6 → WS (evSs ⟨run P (k + 8), P.sub, P.fld⟩ none [
      .asg (.tup [.nm 5, .nm 6]) (.tup [.op2 .mul (.idx (.var 3) (.lit (.int 0))) (.var 4), .op2 .mul (.idx (.var 3) (.lit (.int 1))) (.var 4)]),
      .ife (.or (.not (.call 23 [.ife (.var 1) (.callk 4 [0, 1] [.var 5, .var 6]) (.call 4 [.var 5, .var 6]), .var 3])) (.not (.call 23 [.call 5 [.var 3], .lit (.bl true)]))) [.ret (.lit (.bl false))] [],
      .ife (.and (.cmp .gt (.blt .abs [.var 4]) (.lit (.int 1))) (.not (.call 23 [.callk 5 [0] [.tup [.var 5, .var 6]], .lit (.bl false)]))) [.ret (.lit (.bl false))] []]
      [some (.obj b), some (.bl n), some d, some (fr t s), some (.int w), x5, x6, x7] m3) (fun o m2 => match o with
        | .next δ' => ds.length ≤ 3 ∧ Box m2 b (c + 6 * (3 - ds.length)) ∧ ∃ x2 x3 x4 x5 x6 x7, δ' = [some (.obj b), some (.bl n), x2, x3, x4, x5, x6, x7]
        | .cont δ' => ds.length ≤ 3 ∧ Box m2 b (c + 6 * (3 - ds.length)) ∧ ∃ x2 x3 x4 x5 x6 x7, δ' = [some (.obj b), some (.bl n), x2, x3, x4, x5, x6, x7]
        | .brk δ' => thenQ (retQ Q) (fun δ m => WS (evSs ⟨run P (k + 8), P.sub, P.fld⟩ none [.asg (.nm 7) (.call 26 [.var 0]), .ret (.call 23 [.ife (.var 1) (.callk 5 [0] [.var 7]) (.call 5 [.var 7]), .lit (.bl false)])] δ m) (retQ Q) fun c fs _ m => X c fs m) (.next δ') m2
        | .ret d => thenQ (retQ Q) (fun δ m => WS (evSs ⟨run P (k + 8), P.sub, P.fld⟩ none [.asg (.nm 7) (.call 26 [.var 0]), .ret (.call 23 [.ife (.var 1) (.callk 5 [0] [.var 7]) (.call 5 [.var 7]), .lit (.bl false)])] δ m) (retQ Q) fun c fs _ m => X c fs m) (.ret d) m2) (fun c fs _ m => X c fs m) := fun w m3 c3 hw hw2 B3 hc3 =>
      frac_turn (k := k) rfl nu hw hw2 B3 fun m' B' => ⟨by omega, by rw [← hc']; exact B'.mono hc3, _, _, _, _, _, _, rfl⟩
    rw [evSs_cons, WS_then]
    simp only [evS_ife, evT_eq, evE_cmp, evE_blt, evEs_cons, evEs_nil, evE_idx, evE_op2, evE_var, evE_lit, List.getElem?_cons_zero, List.getElem?_cons_succ, Rs.bind_ok, idx0, idx1, blt_abs, blt_max2, WS_of, Wx_bind, Wx_ok]
    refine Wx_pow ⟨by omega, by omega, by decide⟩ ?_
    simp only [cmp_ge_int, Wx_ok, tru_bl, WS_ite]
    split
    · rw [evSs_cons, WS_then]
      simp only [evS_asg, WS_of]
      refine choose (k := k) (n := 2) (xs := [.int 1, .int (-1)]) (fun m => by simp) rfl (by omega) (by omega) rfl rfl B2 (by omega) fun x hx m3 B3 => ?_
      have hx' : ∃ w : Int, x = .int w ∧ w ≠ 0 ∧ w.natAbs ≤ 10 := by
        simp only [List.mem_cons, List.not_mem_nil, or_false] at hx
        rcases hx with rfl | rfl <;> exact ⟨_, rfl, by decide, by decide⟩
      obtain ⟨w', rfl, hw', hw2'⟩ := hx'
      simp only [stTg_nm, List.length_cons, List.length_nil, Nat.reduceAdd, Nat.reduceLT, if_true, stThen_some, List.set_cons_succ, List.set_cons_zero, WS_ok, thenQ_next, evSs_nil]
      exact fin w' m3 _ hw' hw2' B3 (by omega)
    · simp only [evSs_nil, WS_ok, thenQ_next]
      exact fin w m2 _ hw hw2 B2 (by omega)
  · obtain ⟨hl, B, x2, x3, x4, x5, x6, x7, rfl⟩ := hI
    simp only [List.length_nil, Nat.sub_zero] at B
    simp only [thenQ_next]
    rw [evSs_cons, WS_then]
    simp only [evS_asg, evE_call, evEs_cons, evEs_nil, evE_var, List.getElem?_cons_zero, Rs.bind_ok, WS_of, Wx_bind, Wx_ok]
    refine wrong_ok (k := k + 5) wr pk tk B (by omega) fun d m1 hd B1 K1 => ?_
    simp only [stTg_nm, List.length_cons, List.length_nil, Nat.reduceAdd, Nat.reduceLT, if_true, stThen_some, List.set_cons_succ, List.set_cons_zero, WS_ok, thenQ_next]
    rw [evSs_cons, WS_then]
    have hpick : pick [0] [d] = some [d] := rfl
    simp only [evS_ret, evE_call, evEs_cons, evEs_nil, evE_ife, evE_callk, evE_var, evE_lit, List.getElem?_cons_zero, List.getElem?_cons_succ, Rs.bind_ok, tru_bl, WS_of, Wx_bind, Wx_ok, Wx_ite, hpick, ite_self]
    have hf := hd.facts (by omega)
    refine isNum_ok (k := k + 6) N.hnu N.hit N.hii N.hdv hf.2.2.1 hf.2.1 ?_
    rw [hf.1]
    refine same_bl.nx fun d2 m2 h2 => ?_
    obtain ⟨rfl, g2⟩ := h2
    simp only [WS_ok, thenQ_ret, retQ_ret]
    exact q m2 ((B1.grow g2).mono (by omega))
end
end K00
set_option linter.all false
set_option maxRecDepth 100000
set_option maxHeartbeats 4000000
set_option exponentiation.threshold 100000
/-! K00d: _law_sums_right. -/
namespace K00
open Ev
section
variable {k b c : Nat} {m : Mem} {Q : D → Mem → Prop} {X : Nat → List D → Mem → Prop}
def body28 : List S := [
    .asg (.nm 10) (.lst [.call 22 [.op2 .add (.op2 .mul (.var 5) (.var 8)) (.op2 .mul (.var 7) (.var 6)), .op2 .mul (.var 6) (.var 8)], .call 22 [.op2 .sub (.op2 .mul (.var 5) (.var 8)) (.op2 .mul (.var 7) (.var 6)), .op2 .mul (.var 6) (.var 8)], .call 22 [.op2 .mul (.var 5) (.var 7), .op2 .mul (.var 6) (.var 8)]]),
    .ife (.var 1) [.asg (.nm 11) (.lst [.callk 13 [0, 1] [.var 2, .var 4], .callk 14 [1, 0] [.var 4, .var 2], .callk 15 [0, 1] [.var 2, .var 4]])] [.asg (.nm 11) (.lst [.call 13 [.var 2, .var 4], .call 14 [.var 2, .var 4], .call 15 [.var 2, .var 4]])],
    .ife (.not (.call 23 [.var 11, .var 10])) [.ret (.lit (.bl false))] [],
    .ife (.not (.call 23 [.ife (.var 1) (.call 17 [.var 2, .var 4]) (.callk 17 [1, 0] [.var 4, .var 2]), .op2 .sub (.blt .int [.cmp .gt (.op2 .mul (.var 5) (.var 8)) (.op2 .mul (.var 7) (.var 6))]) (.blt .int [.cmp .lt (.op2 .mul (.var 5) (.var 8)) (.op2 .mul (.var 7) (.var 6))])])) [.ret (.lit (.bl false))] [],
    .tr [
      .asg (.nm 11) (.ife (.var 1) (.callk 16 [0, 1] [.var 2, .var 4]) (.call 16 [.var 2, .var 4])),
      .ife (.or (.cmp .eq (.var 7) (.lit (.int 0))) (.not (.call 23 [.var 11, .call 22 [.op2 .mul (.var 5) (.var 8), .op2 .mul (.var 6) (.var 7)]]))) [.ret (.lit (.bl false))] []] [(3, none, [.ife (.cmp .ne (.var 7) (.lit (.int 0))) [.ret (.lit (.bl false))] []])],
    .asg (.tup [.tup [.nm 5, .nm 6], .tup [.nm 7, .nm 8], .nm 2, .nm 4]) (.tup [.tup [.var 7, .var 8], .tup [.var 5, .var 6], .var 4, .var 2])]
theorem same_lst {m : Mem} {a1 a2 : Nat} {x y z : D} (h1 : m[a1]? = some (.lst [x, y, z])) (h2 : m[a2]? = some (.lst [x, y, z])) (hx : ∀ m, Sm 2 m x x) (hy : ∀ m, Sm 2 m y y) (hz : ∀ m, Sm 2 m z z) : Wx (run P (k + 8) 23 [.obj a1, .obj a2] m) (fun d m1 => d = .bl true ∧ Grow m m1) NX := by
  have h : Sm 3 m (.obj a1) (.obj a2) := .inr (.inr (.inr (.inr (.inr (.inl ⟨a1, a2, _, _, rfl, rfl, h1, h2, by simp, .cons (hx m) (.cons (hy m) (.cons (hz m) .nil))⟩)))))
  generalize D.obj a1 = F at h ⊢
  generalize D.obj a2 = G at h ⊢
  exact same_gen (by omega) h
theorem sm_lo {t s : Int} (m : Mem) : Sm 2 m (lo t s) (lo t s) := sm_fr (n := 0)
theorem same_lo {t s : Int} : Wx (run P (k + 8) 23 [lo t s, lo t s] m) (fun d m1 => d = .bl true ∧ Grow m m1) NX := by
  have h : Sm 2 m (lo t s) (lo t s) := sm_lo m
  generalize lo t s = F at h ⊢
  exact same_gen (by omega) h
theorem sums_turn {g : Cfg} (hg : g = ⟨run P (k + 8), P.sub, P.fld⟩) {n : Bool} {a e c' d : Int} {x3 x9 x10 x11 : Option D} (n1 : Num a e) (n2 : Num c' d) (hB : Box m b c) {QS : Out → Mem → Prop} {XS : Nat → List D → Lc → Mem → Prop}
    (q : ∀ m' y10 y11, Box m' b c → QS (.next [some (.obj b), some (.bl n), some (fr c' d), x3, some (fr a e), some (.int c'), some (.int d), some (.int a), some (.int e), x9, y10, y11]) m') :
    WS (evSs g none body28 [some (.obj b), some (.bl n), some (fr a e), x3, some (fr c' d), some (.int a), some (.int e), some (.int c'), some (.int d), x9, x10, x11] m) QS XS := by
  have e1 := mul_lt n1.ha n2.hb
  have e2 := mul_lt n2.ha n1.hb
  have e3 := mul_lt n1.hb n2.hb
  have e4 := mul_lt n1.ha n2.ha
  have e5 := mul_lt n1.hb n2.ha
  have hbig := big
  have hp := p130
  have hne : e * d ≠ 0 := Int.ne_of_gt (Int.mul_pos n1.pos n2.pos)
  subst hg
  unfold body28
  rw [evSs_cons, WS_then]
  simp only [evS_asg, evE_lst, evE_call, evEs_cons, evEs_nil, evE_op2, evE_var, List.getElem?_cons_zero, List.getElem?_cons_succ, Rs.bind_ok, WS_of, Wx_bind, Wx_ok]
  refine Wx_mul (mulOk_left n1.ha) ?_
  refine Wx_mul (mulOk_left n2.ha) ?_
  simp only [op_add, Wx_ok]
  refine Wx_mul (mulOk_left n1.hb) ?_
  refine lawLow_ok (k := k + 7) ll hne (by omega) (by omega) ?_
  refine Wx_mul (mulOk_left n1.ha) ?_
  refine Wx_mul (mulOk_left n2.ha) ?_
  simp only [op_sub, Wx_ok]
  refine Wx_mul (mulOk_left n1.hb) ?_
  refine lawLow_ok (k := k + 7) ll hne (by omega) (by omega) ?_
  refine Wx_mul (mulOk_left n1.ha) ?_
  refine Wx_mul (mulOk_left n1.hb) ?_
  refine lawLow_ok (k := k + 7) ll hne (by omega) (by omega) ?_
  simp only [newLst, Wx_ok, stTg_nm, List.length_cons, List.length_nil, Nat.reduceAdd, Nat.reduceLT, if_true, stThen_some, List.set_cons_succ, List.set_cons_zero, WS_ok, thenQ_next]
  generalize hL1 : lo (a * d + c' * e) (e * d) = L1
  generalize hL2 : lo (a * d - c' * e) (e * d) = L2
  generalize hL3 : lo (a * c') (e * d) = L3
  have hS1 : ∀ m, Sm 2 m L1 L1 := fun m => by rw [← hL1]; exact sm_lo m
  have hS2 : ∀ m, Sm 2 m L2 L2 := fun m => by rw [← hL2]; exact sm_lo m
  have hS3 : ∀ m, Sm 2 m L3 L3 := fun m => by rw [← hL3]; exact sm_lo m
  rw [evSs_cons, WS_then]
  simp only [evS_ife, evT_eq, evE_var, List.getElem?_cons_zero, List.getElem?_cons_succ, Rs.bind_ok, tru_bl, WS_of, Wx_ok]
  have told : ∀ {QS' : Out → Mem → Prop} {XS' : Nat → List D → Lc → Mem → Prop}, QS' (.next [some (.obj b), some (.bl n), some (fr a e), x3, some (fr c' d), some (.int a), some (.int e), some (.int c'), some (.int d), x9, some (.obj m.length), some (.obj (m ++ [Ob.lst [L1, L2, L3]]).length)]) ((m ++ [Ob.lst [L1, L2, L3]]) ++ [.lst [L1, L2, L3]]) →
      WS (if n = true then evSs ⟨run P (k + 8), P.sub, P.fld⟩ none [.asg (.nm 11) (.lst [.callk 13 [0, 1] [.var 2, .var 4], .callk 14 [1, 0] [.var 4, .var 2], .callk 15 [0, 1] [.var 2, .var 4]])] [some (.obj b), some (.bl n), some (fr a e), x3, some (fr c' d), some (.int a), some (.int e), some (.int c'), some (.int d), x9, some (.obj m.length), x11] (m ++ [Ob.lst [L1, L2, L3]])
        else evSs ⟨run P (k + 8), P.sub, P.fld⟩ none [.asg (.nm 11) (.lst [.call 13 [.var 2, .var 4], .call 14 [.var 2, .var 4], .call 15 [.var 2, .var 4]])] [some (.obj b), some (.bl n), some (fr a e), x3, some (fr c' d), some (.int a), some (.int e), some (.int c'), some (.int d), x9, some (.obj m.length), x11] (m ++ [Ob.lst [L1, L2, L3]])) QS' XS' := by
    intro QS' XS' hq
    have hp1 : pick [0, 1] [fr a e, fr c' d] = some [fr a e, fr c' d] := rfl
    have hp2 : pick [1, 0] [fr c' d, fr a e] = some [fr a e, fr c' d] := rfl
    have t1 : ∀ {Q'} {X' : Nat → List D → Mem → Prop} {m'}, Q' L1 m' → Wx (run P (k + 8) 13 [fr a e, fr c' d] m') Q' X' := fun h => op_ok (k := k + 3) N ad n1 n2 (sum_ok (k := k + 4) sf N.hlw N.hdv n1 n2 (by rw [hL1]; exact h))
    have t2 : ∀ {Q'} {X' : Nat → List D → Mem → Prop} {m'}, Q' L2 m' → Wx (run P (k + 8) 14 [fr a e, fr c' d] m') Q' X' := fun h => op_ok (k := k + 3) N su n1 n2 (less_ok (k := k + 4) lf N.hlw N.hdv n1 n2 (by rw [hL2]; exact h))
    have t3 : ∀ {Q'} {X' : Nat → List D → Mem → Prop} {m'}, Q' L3 m' → Wx (run P (k + 8) 15 [fr a e, fr c' d] m') Q' X' := fun h => op_ok (k := k + 3) N mu n1 n2 (prod_ok (k := k + 4) pf N.hlw N.hdv n1 n2 (by rw [hL3]; exact h))
    cases n
    · simp only [Bool.false_eq_true, if_false]
      rw [evSs_cons, WS_then]
      simp only [evS_asg, evE_lst, evE_call, evEs_cons, evEs_nil, evE_var, List.getElem?_cons_zero, List.getElem?_cons_succ, Rs.bind_ok, WS_of, Wx_bind, Wx_ok]
      refine t1 (t2 (t3 ?_))
      simp only [newLst, Wx_ok, stTg_nm, List.length_cons, List.length_nil, Nat.reduceAdd, Nat.reduceLT, if_true, stThen_some, List.set_cons_succ, List.set_cons_zero, WS_ok, thenQ_next, evSs_nil]
      exact hq
    · simp only [if_true]
      rw [evSs_cons, WS_then]
      simp only [evS_asg, evE_lst, evE_callk, evEs_cons, evEs_nil, evE_var, List.getElem?_cons_zero, List.getElem?_cons_succ, Rs.bind_ok, WS_of, Wx_bind, Wx_ok, hp1, hp2]
      refine t1 (t2 (t3 ?_))
      simp only [newLst, Wx_ok, stTg_nm, List.length_cons, List.length_nil, Nat.reduceAdd, Nat.reduceLT, if_true, stThen_some, List.set_cons_succ, List.set_cons_zero, WS_ok, thenQ_next, evSs_nil]
      exact hq
  refine told ?_
  have B2 : Box ((m ++ [Ob.lst [L1, L2, L3]]) ++ [.lst [L1, L2, L3]]) b c := hB.app.app
  have hm1 : ((m ++ [Ob.lst [L1, L2, L3]]) ++ [Ob.lst [L1, L2, L3]])[m.length]? = some (.lst [L1, L2, L3]) := by
    rw [List.getElem?_append_left (by simp)]
    exact at_new
  have hm2 : ((m ++ [Ob.lst [L1, L2, L3]]) ++ [Ob.lst [L1, L2, L3]])[(m ++ [Ob.lst [L1, L2, L3]]).length]? = some (.lst [L1, L2, L3]) := at_new
  generalize (m ++ [Ob.lst [L1, L2, L3]]) ++ [Ob.lst [L1, L2, L3]] = m2 at B2 hm1 hm2 ⊢
  generalize (m ++ [Ob.lst [L1, L2, L3]]).length = q2 at hm2 ⊢
  generalize m.length = q1 at hm1 ⊢
  simp only [thenQ_next]
  rw [evSs_cons, WS_then]
  simp only [evS_ife, evT_eq, evE_not, evE_call, evEs_cons, evEs_nil, evE_var, List.getElem?_cons_zero, List.getElem?_cons_succ, Rs.bind_ok, WS_of, Wx_bind, Wx_ok]
  refine (same_lst hm2 hm1 hS1 hS2 hS3).nx fun d1 m3 h3 => ?_
  obtain ⟨rfl, g3⟩ := h3
  simp only [tru_bl, Wx_ok, Bool.not_true, Bool.false_eq_true, if_false, evSs_nil, WS_ok, thenQ_next]
  have B3 := B2.grow g3
  rw [evSs_cons, WS_then]
  have hp2 : pick [1, 0] [fr c' d, fr a e] = some [fr a e, fr c' d] := rfl
  simp only [evS_ife, evT_eq, evE_not, evE_call, evEs_cons, evEs_nil, evE_ife, evE_callk, evE_op2, evE_blt, evE_cmp, evE_var, List.getElem?_cons_zero, List.getElem?_cons_succ, Rs.bind_ok, tru_bl, WS_of, Wx_bind, Wx_ok, Wx_ite, hp2, ite_self]
  refine op_ok (k := k + 3) N co n1 n2 (sign_ok (k := k + 6) sgf n1 n2 ?_)
  refine Wx_mul (mulOk_left n1.ha) ?_
  refine Wx_mul (mulOk_left n2.ha) ?_
  simp only [cmp_gt_int, Wx_ok, blt_intb]
  refine Wx_mul (mulOk_left n1.ha) ?_
  refine Wx_mul (mulOk_left n2.ha) ?_
  simp only [cmp_lt_int, Wx_ok, blt_intb, op_sub, decide_eq_true_eq]
  have hcm : ((if c' * e < a * d then 1 else 0) - (if a * d < c' * e then 1 else 0) : Int) = cmpI (a * d) (c' * e) := rfl
  rw [hcm]
  refine same_int.nx fun d2 m4 h4 => ?_
  obtain ⟨rfl, g4⟩ := h4
  simp only [tru_bl, Wx_ok, Bool.not_true, Bool.false_eq_true, if_false, evSs_nil, WS_ok, thenQ_next]
  have B4 := B3.grow g4
  -- the last row
  have last : ∀ y11 m5, Box m5 b c → WS (evSs ⟨run P (k + 8), P.sub, P.fld⟩ none [.asg (.tup [.tup [.nm 5, .nm 6], .tup [.nm 7, .nm 8], .nm 2, .nm 4]) (.tup [.tup [.var 7, .var 8], .tup [.var 5, .var 6], .var 4, .var 2])]
      [some (.obj b), some (.bl n), some (fr a e), x3, some (fr c' d), some (.int a), some (.int e), some (.int c'), some (.int d), x9, some (.obj q1), y11] m5) QS XS := fun y11 m5 B5 => by
    rw [evSs_cons, WS_then]
    simp only [evS_asg, evE_tup, evEs_cons, evEs_nil, evE_var, List.getElem?_cons_zero, List.getElem?_cons_succ, Rs.bind_ok, WS_of, Wx_ok, stTg_tup, stTgs_cons, stTgs_nil, stTg_nm, List.length_cons, List.length_nil, List.length_set, Nat.reduceAdd, Nat.reduceLT, if_true, stThen_some, List.set_cons_succ, List.set_cons_zero, WS_ok, thenQ_next, evSs_nil]
    exact q m5 _ _ B5
  rw [evSs_cons, WS_then, WS_tr, evSs_cons, WS_then]
  have hp1 : pick [0, 1] [fr a e, fr c' d] = some [fr a e, fr c' d] := rfl
  simp only [evS_asg, evE_ife, evE_call, evE_callk, evEs_cons, evEs_nil, evE_var, List.getElem?_cons_zero, List.getElem?_cons_succ, Rs.bind_ok, tru_bl, WS_of, Wx_bind, Wx_ok, Wx_ite, hp1, ite_self]
  refine dvd_ok (k := k + 3) N dd n1 n2 (fun hc => share_ok (k := k + 4) shf N.hlw N.hdv n1 n2 hc ?_) fun hc => ?_
  · simp only [stTg_nm, List.length_cons, List.length_nil, Nat.reduceAdd, Nat.reduceLT, if_true, stThen_some, List.set_cons_succ, List.set_cons_zero, WS_ok, thenQ_next]
    rw [evSs_cons, WS_then]
    simp only [evS_ife, evT_eq, evE_or, evE_not, evE_cmp, evE_call, evEs_cons, evEs_nil, evE_op2, evE_var, evE_lit, List.getElem?_cons_zero, List.getElem?_cons_succ, Rs.bind_ok, cmp_eq_int, tru_bl, hc, decide_false, Bool.false_eq_true, if_false, WS_of, Wx_bind, Wx_ok, Wx_ite]
    refine Wx_mul (mulOk_left n1.ha) ?_
    refine Wx_mul (mulOk_left n1.hb) ?_
    refine lawLow_ok (k := k + 7) ll (Int.mul_ne_zero (Int.ne_of_gt n1.pos) hc) (by omega) (by omega) ?_
    refine same_lo.nx fun d5 m5 h5 => ?_
    obtain ⟨rfl, g5⟩ := h5
    simp only [tru_bl, Wx_ok, Bool.not_true, Bool.false_eq_true, if_false, evSs_nil, WS_ok, thenQ_next]
    exact last _ m5 (B4.grow g5)
  · refine evHs_yes (by show P.sub 3 3 = some true; rw [Pd]; rfl) rfl ?_
    simp only [unset]
    rw [evSs_cons, WS_then]
    simp only [evS_ife, evT_eq, evE_cmp, evE_var, evE_lit, List.getElem?_cons_zero, List.getElem?_cons_succ, Rs.bind_ok, cmp_ne_int, tru_bl, hc, ne_eq, not_true, decide_false, Bool.false_eq_true, if_false, WS_of, Wx_bind, Wx_ok, evSs_nil, WS_ok, thenQ_next, endQ, unset]
    rw [← hc]
    exact last _ m4 B4
end
end K00
set_option linter.all false
set_option maxRecDepth 100000
set_option maxHeartbeats 400000
set_option exponentiation.threshold 100000
/-! K00f: _law_sums_right, whole. -/
namespace K00
open Ev
section
variable {k b c : Nat} {m : Mem} {Q : D → Mem → Prop} {X : Nat → List D → Mem → Prop}
theorem f28_eq : P.fns[28]? = some f28 := by rw [Pd]; rfl
theorem sums_ok {n : Bool} (hB : Box m b c) (hc : c < 800000) (q : ∀ m', Box m' b (c + 10) → Q (.bl true) m') : Wx (run P (k + 9) 28 [.obj b, .bl n] m) Q X := by
  refine call_f f28_eq rfl ?_
  simp only [f28, start, List.map_cons, List.map_nil, List.length_cons, List.length_nil, List.replicate, List.cons_append, List.nil_append, Nat.reduceAdd, Nat.reduceSub]
  rw [evSs_cons, WS_then]
  simp only [evS_asg, evE_call, evEs_cons, evEs_nil, evE_var, List.getElem?_cons_zero, Rs.bind_ok, WS_of, Wx_bind, Wx_ok]
  refine drawn_ok (k := k + 6) dr tk ll hB (by omega) fun a e m1 n1 B1 K1 => ?_
  simp only [stTg_nm, List.length_cons, List.length_nil, Nat.reduceAdd, Nat.reduceLT, if_true, stThen_some, List.set_cons_succ, List.set_cons_zero, WS_ok, thenQ_next]
  rw [evSs_cons, WS_then]
  simp only [evS_asg, evE_call, evEs_cons, evEs_nil, evE_var, evE_lit, List.getElem?_cons_zero, Rs.bind_ok, WS_of, Wx_bind, Wx_ok]
  refine take_ok (k := k + 7) (n := 5) tk B1 (by omega) (by omega) (by omega) fun way m2 hw B2 K2 hl2 => ?_
  simp only [stTg_nm, List.length_cons, List.length_nil, Nat.reduceAdd, Nat.reduceLT, if_true, stThen_some, List.set_cons_succ, List.set_cons_zero, WS_ok, thenQ_next]
  rw [evSs_cons, WS_then]
  simp only [evS_asg, WS_of]
  -- the rest
  have rest : ∀ x3 c' d m3 c3, Num c' d → Box m3 b c3 → c3 ≤ c + 10 → WS (evSs ⟨run P (k + 8), P.sub, P.fld⟩ none [.asg (.tup [.tup [.nm 5, .nm 6], .tup [.nm 7, .nm 8]]) (.tup [.var 2, .var 4]), .for (.nm 9) (.r1 (.lit (.int 2))) body28, .ret (.lit (.bl true))]
      [some (.obj b), some (.bl n), some (fr a e), x3, some (fr c' d), none, none, none, none, none, none, none] m3) (retQ Q) (fun c fs _ m => X c fs m) := fun x3 c' d m3 c3 n2 B3 hc3 => by
    rw [evSs_cons, WS_then]
    simp only [evS_asg, evE_tup, evEs_cons, evEs_nil, evE_var, List.getElem?_cons_zero, List.getElem?_cons_succ, Rs.bind_ok, WS_of, Wx_ok, stTg_tup, stTgs_cons, stTgs_nil, stTg_nm, List.length_cons, List.length_nil, List.length_set, Nat.reduceAdd, Nat.reduceLT, if_true, stThen_some, List.set_cons_succ, List.set_cons_zero, WS_ok, thenQ_next]
    rw [evSs_cons, WS_then]
    have hr : r1V (.int 2) m3 = .ok (.con [.int 0, .int 1]) m3 := rfl
    simp only [evS_for, evIt_r1, evE_lit, Rs.bind_ok, hr, WS_of, Wx_ok, walkF]
    refine for_ok (fun ds δ m' => Box m' b c3 ∧ ∃ a e c' d x3 x9 x10 x11, Num a e ∧ Num c' d ∧ δ = [some (.obj b), some (.bl n), some (fr a e), x3, some (fr c' d), some (.int a), some (.int e), some (.int c'), some (.int d), x9, x10, x11]) (fun t ds δ m' hI => ?_) (fun δ m' hI => ?_) _ _ _ ⟨B3, a, e, c', d, _, _, _, _, n1, n2, rfl⟩
    · obtain ⟨B, a, e, c', d, x3, x9, x10, x11, n1, n2, rfl⟩ := hI
      simp only [stTg_nm, List.length_cons, List.length_nil, Nat.reduceAdd, Nat.reduceLT, if_true, stThen_some, List.set_cons_succ, List.set_cons_zero]
      exact sums_turn (k := k) rfl n1 n2 B fun m' y10 y11 B' => ⟨B', c', d, a, e, _, _, _, _, n2, n1, rfl⟩
    · obtain ⟨B, a, e, c', d, x3, x9, x10, x11, n1, n2, rfl⟩ := hI
      simp only [thenQ_next]
      rw [evSs_cons, WS_then]
      simp only [evS_ret, evE_lit, WS_of, Wx_ok, WS_ok, thenQ_ret, retQ_ret]
      exact q m' (B.mono hc3)
  simp only [evE_ife, evE_cmp, evE_var, evE_lit, List.getElem?_cons_zero, List.getElem?_cons_succ, Rs.bind_ok, cmp_eq_int, tru_bl, Wx_bind, Wx_ok, Wx_ite]
  by_cases h0 : (way : Int) = 0
  · simp only [h0, decide_true, if_true, stTg_nm, List.length_cons, List.length_nil, Nat.reduceAdd, Nat.reduceLT, stThen_some, List.set_cons_succ, List.set_cons_zero, WS_ok, thenQ_next]
    exact rest _ a e m2 _ n1 B2 (by omega)
  · by_cases h1 : (way : Int) = 1
    · simp only [h0, h1, decide_true, decide_false, Bool.false_eq_true, if_true, if_false, evE_tup, evEs_cons, evEs_nil, evE_neg, evE_idx, evE_var, evE_lit, List.getElem?_cons_zero, List.getElem?_cons_succ, Rs.bind_ok, idx0, idx1, negV_int, Wx_ok, stTg_nm, List.length_cons, List.length_nil, Nat.reduceAdd, Nat.reduceLT, stThen_some, List.set_cons_succ, List.set_cons_zero, WS_ok, thenQ_next]
      have n2 : Num (-a) e := ⟨n1.pos, by have := n1.low; unfold gd at this ⊢; rwa [Int.natAbs_neg], by rw [Int.natAbs_neg]; exact n1.ha, n1.hb⟩
      exact rest _ (-a) e m2 _ n2 B2 (by omega)
    · simp only [h0, h1, decide_false, Bool.false_eq_true, if_false, evE_call, evEs_cons, evEs_nil, evE_var, List.getElem?_cons_zero, Rs.bind_ok]
      refine drawn_ok (k := k + 6) dr tk ll B2 (by omega) fun c' d m3 n2 B3 K3 => ?_
      simp only [stTg_nm, List.length_cons, List.length_nil, Nat.reduceAdd, Nat.reduceLT, if_true, stThen_some, List.set_cons_succ, List.set_cons_zero, WS_ok, thenQ_next]
      exact rest _ c' d m3 _ n2 B3 (by omega)
end
end K00
set_option linter.all false
set_option maxRecDepth 100000
set_option maxHeartbeats 400000
set_option exponentiation.threshold 100000
/-! K00g: _law_cell, _law_box. -/
namespace K00
open Ev
section
variable {k : Nat} {m : Mem} {Q : D → Mem → Prop} {X : Nat → List D → Mem → Prop}
theorem f18_eq : P.fns[18]? = some f18 := by rw [Pd]; rfl
theorem f19_eq : P.fns[19]? = some f19 := by rw [Pd]; rfl
theorem allInt_take : ∀ (ns : List Int), allInt (ns.map D.int) = some ns
  | [] => rfl
  | i :: ns => by
    have := allInt_take ns
    unfold allInt at this ⊢
    rw [List.map_cons]
    unfold mapO
    simp only [intOf, this]
theorem cell_ok {ns : List Int} (hm : m[0]? = some (.fro (ns.map D.int))) (j : Nat) (hj : j < 1000) (q : ∀ v m', Grow m m' → Q (.int v) m') : Wx (run P (k + 1) 18 [.obj 0, .int j] m) Q X := by
  refine call_f f18_eq rfl ?_
  have hlen : bltV .len [.obj 0] m = .ok (.int ns.length) m := by simp [bltV, hm]
  simp only [f18, start, List.map_cons, List.map_nil, List.length_cons, List.length_nil, List.replicate, List.cons_append, List.nil_append, List.append_nil, Nat.reduceAdd, Nat.reduceSub, Nat.sub_self]
  rw [evSs_cons, WS_then]
  simp only [evS_ret, evE_ife, evE_cmp, evE_blt, evEs_cons, evEs_nil, evE_var, List.getElem?_cons_zero, List.getElem?_cons_succ, Rs.bind_ok, hlen, cmp_lt_int, tru_bl, WS_of, Wx_bind, Wx_ok, Wx_ite]
  by_cases h : (j : Int) < (ns.length : Int)
  · have hjl : j < ns.length := by omega
    simp only [h, decide_true, if_true, evE_idx, evE_var, List.getElem?_cons_zero, List.getElem?_cons_succ, Rs.bind_ok]
    have hi : idxV (.obj 0) (.int (j : Int)) m = .ok (.int ns[j]) m := by
      simp [idxV, seqOf, hm, atIx, hjl]
    rw [hi]
    simp only [Wx_ok, WS_ok, thenQ_ret, retQ_ret]
    exact q _ m .refl
  · simp only [h, decide_false, Bool.false_eq_true, if_false, evE_op2, evE_blt, evEs_cons, evEs_nil, evE_slc, evO_none, evO_some, evE_var, evE_lit, List.getElem?_cons_zero, List.getElem?_cons_succ, Rs.bind_ok, Wx_bind, Wx_ok]
    refine Wx_mul (mulOk_left (by decide)) ?_
    have hs : slcV (.obj 0) none (some 1) m = newLst (cutD (ns.map D.int) none (some 1)) m := by simp [slcV, hm]
    rw [hs]
    have hcut : cutD (ns.map D.int) none (some 1) = (ns.take 1).map D.int := by
      unfold cutD sIxD
      simp only [List.drop_zero, List.map_take, Nat.sub_zero]
      cases ns with
      | nil => rfl
      | cons a r => simp
    rw [hcut]
    simp only [newLst, Wx_ok]
    have hsum : bltV .sum [.obj m.length] (m ++ [Ob.lst ((ns.take 1).map D.int)]) = .ok (.int (ns.take 1).sum) (m ++ [Ob.lst ((ns.take 1).map D.int)]) := by
      have e : seqOf (.obj m.length) (m ++ [Ob.lst ((ns.take 1).map D.int)]) = some ((ns.take 1).map D.int) := by
        simp only [seqOf, at_new]
      simp only [bltV, e, Option.bind_some, allInt_take]
    rw [hsum]
    simp only [Wx_ok, blt_int]
    refine Wx_mod (by decide) ?_
    simp only [op_add, Wx_ok, WS_ok, thenQ_ret, retQ_ret]
    exact q _ _ Grow.app
theorem box_ok (hS : Scr m) (v : Int) (q : ∀ m', Grow m m' → Box m' m.length 0 → Q (.obj m.length) m') : Wx (run P (k + 1) 19 [.int v] m) Q X := by
  refine call_f f19_eq rfl ?_
  simp only [f19, start, List.map_cons, List.map_nil, List.length_cons, List.length_nil, List.replicate, List.cons_append, List.nil_append, List.append_nil, Nat.reduceAdd, Nat.reduceSub, Nat.sub_self]
  rw [evSs_cons, WS_then]
  simp only [evS_ret, evE_lst, evE_cmp, evE_blt, evE_op2, evEs_cons, evEs_nil, evE_var, evE_lit, List.getElem?_cons_zero, List.getElem?_cons_succ, Rs.bind_ok, blt_abs, blt_int, WS_of, Wx_bind, Wx_ok]
  refine Wx_pow ⟨by omega, by omega, by decide⟩ ?_
  simp only [cmp_ge_int, Wx_ok]
  refine Wx_mod (by decide) ?_
  simp only [newLst, Wx_ok, WS_ok, thenQ_ret, retQ_ret]
  refine q _ Grow.app ⟨_, _, _, _, at_new, Int.emod_nonneg _ (by decide), ?_, by omega, by simp, hS.app⟩
  have := Int.emod_lt_of_pos (v.natAbs : Int) (b := 2147483629) (by decide)
  omega
end
end K00
set_option linter.all false
set_option maxRecDepth 100000
set_option maxHeartbeats 400000
set_option exponentiation.threshold 100000
/-! K00i: _law_refusals_right. -/
namespace K00
open Ev
section
variable {k b c : Nat} {m : Mem} {Q : D → Mem → Prop} {X : Nat → List D → Mem → Prop}
def fns5 : List D := [.fn 13, .fn 14, .fn 15, .fn 16, .fn 17]
theorem calls5 : ∀ d ∈ fns5, ∃ f fd rest, d = .fn f ∧ P.fns[f]? = some fd ∧ fd.body = .ex (.call 7 [.var 0, .var 1]) :: rest ∧ fd.np = 2 :=
  allc ⟨_, _, _, rfl, ad, rfl, rfl⟩ (allc ⟨_, _, _, rfl, su, rfl, rfl⟩ (allc ⟨_, _, _, rfl, mu, rfl, rfl⟩ (allc ⟨_, _, _, rfl, dd, rfl, rfl⟩ (allc ⟨_, _, _, rfl, co, rfl, rfl⟩ all0))))
theorem psub (c h : Nat) (r : Option Bool) (e : L.pr.sub c h = r) : P.sub c h = r := by rw [Pd]; exact e
theorem pfld (c : Nat) (r : Option Nat) (e : L.pr.fld c = r) : P.fld c = r := by rw [Pd]; exact e
/-- a call that is refused because of x -/
theorem refd_ok {f : Nat} {fd : Fd} {rest : List S} {one other x : D} (hf : P.fns[f]? = some fd) (hb : fd.body = .ex (.call 7 [.var 0, .var 1]) :: rest) (hn : fd.np = 2) (o1 : okD2 one m = true) (s1 : smallD one = true) (o2 : okD2 other m = true) (s2 : smallD other = true)
    (h : (isNumD one = false ∧ x = one) ∨ (isNumD one = true ∧ isNumD other = false ∧ x = other)) (hx : Wr b c m x) (hc : c < 900) (q : ∀ m', Bld b x m m' → Q (.bl true) m') : Wx (run P (k + 8) 29 [.fn f, one, other, x] m) Q X :=
  refused_ok (k := k + 2) rf bl sm (psub _ _ _ rfl) (pfld _ _ rfl) (fun Q' X' h' => refuse_ok (k := k + 2) N hf hb hn o1 s1 o2 s2 h h') hx hc q
def body30 : List S := [
    .asg (.tup [.nm 3, .nm 4, .nm 5]) (.tup [.call 25 [.var 0], .call 26 [.var 0], .call 26 [.var 0]]),
    .ife (.or (.not (.call 29 [.var 2, .var 4, .var 3, .var 4])) (.not (.call 29 [.var 2, .var 3, .var 5, .var 5]))) [.ret (.lit (.bl false))] [],
    .asg (.nm 6) (.call 26 [.var 0]),
    .ife (.not (.call 29 [.var 2, .var 6, .call 21 [.var 0, .lst [.var 5, .tup [.lit (.int 0), .lit (.int 1)], .lit .non]], .var 6])) [.ret (.lit (.bl false))] []]
theorem Wr.keep {d : D} {m' : Mem} {j : Nat} (h : Wr b j m d) (K : Keep b m m') : Wr b j m' d := by simpa using h.chg (Chg.of_keep K)
theorem Wr.bld {d : D} {m' : Mem} {j : Nat} {e : D} (h : Wr b j m d) (B : Bld b e m m') : Wr b (j + 1) m' d := h.chg B.chg
theorem refusals_turn {f : Nat} {fd : Fd} {rest : List S} {n : Bool} {x3 x4 x5 x6 x7 x8 x9 x10 x11 : Option D} (hf : P.fns[f]? = some fd) (hb : fd.body = .ex (.call 7 [.var 0, .var 1]) :: rest) (hn : fd.np = 2) (hB : Box m b c) (hc : c < 800000) {QS : Out → Mem → Prop} {XS : Nat → List D → Lc → Mem → Prop}
    (q : ∀ m' y3 y4 y5 y6, Box m' b (c + 10) → QS (.next [some (.obj b), some (.bl n), some (.fn f), y3, y4, y5, y6, x7, x8, x9, x10, x11]) m') :
    WS (evSs ⟨run P (k + 8), P.sub, P.fld⟩ none body30 [some (.obj b), some (.bl n), some (.fn f), x3, x4, x5, x6, x7, x8, x9, x10, x11] m) QS XS := by
  unfold body30
  rw [evSs_cons, WS_then]
  simp only [evS_asg, evE_tup, evE_call, evEs_cons, evEs_nil, evE_var, List.getElem?_cons_zero, List.getElem?_cons_succ, Rs.bind_ok, WS_of, Wx_bind, Wx_ok]
  refine drawn_ok (k := k + 6) dr tk ll hB (by omega) fun t s m1 nu B1 K1 => ?_
  refine wrong_ok (k := k + 5) wr pk tk B1 (by omega) fun w m2 hw B2 K2 => ?_
  refine wrong_ok (k := k + 5) wr pk tk B2 (by omega) fun u m3 hu B3 K3 => ?_
  have hw3 := Wr.keep hw K3
  simp only [Wx_ok, stTg_tup, stTgs_cons, stTgs_nil, stTg_nm, List.length_cons, List.length_nil, List.length_set, Nat.reduceAdd, Nat.reduceLT, if_true, stThen_some, List.set_cons_succ, List.set_cons_zero, WS_ok, thenQ_next]
  rw [evSs_cons, WS_then]
  simp only [evS_ife, evT_eq, evE_or, evE_not, evE_call, evEs_cons, evEs_nil, evE_var, List.getElem?_cons_zero, List.getElem?_cons_succ, Rs.bind_ok, WS_of, Wx_bind, Wx_ok]
  have fw := hw3.facts (by omega)
  refine refd_ok (k := k) hf hb hn fw.2.2.1 fw.2.1 fr_ok nu.sm (.inl ⟨fw.1, rfl⟩) hw3 (by omega) fun m4 G4 => ?_
  simp only [tru_bl, Wx_ok, Bool.not_true, Bool.false_eq_true, if_false, Wx_bind]
  have hu4 := Wr.bld hu G4
  have fu := hu4.facts (by omega)
  refine refd_ok (k := k) hf hb hn fr_ok nu.sm fu.2.2.1 fu.2.1 (.inr ⟨nu.is, fu.1, rfl⟩) hu4 (by omega) fun m5 G5 => ?_
  simp only [tru_bl, Wx_ok, Bool.not_true, Bool.false_eq_true, if_false, evSs_nil, WS_ok, thenQ_next]
  have B5 := G5.box _ (G4.box _ B3)
  have hu5 := Wr.bld hu4 G5
  rw [evSs_cons, WS_then]
  simp only [evS_asg, evE_call, evEs_cons, evEs_nil, evE_var, List.getElem?_cons_zero, List.getElem?_cons_succ, Rs.bind_ok, WS_of, Wx_bind, Wx_ok]
  refine wrong_ok (k := k + 5) wr pk tk B5 (by omega) fun v m6 hv B6 K6 => ?_
  have hu6 := Wr.keep hu5 K6
  simp only [stTg_nm, List.length_cons, List.length_nil, Nat.reduceAdd, Nat.reduceLT, if_true, stThen_some, List.set_cons_succ, List.set_cons_zero, WS_ok, thenQ_next]
  rw [evSs_cons, WS_then]
  simp only [evS_ife, evT_eq, evE_not, evE_call, evE_lst, evE_tup, evEs_cons, evEs_nil, evE_var, evE_lit, List.getElem?_cons_zero, List.getElem?_cons_succ, Rs.bind_ok, newLst, WS_of, Wx_bind, Wx_ok]
  have hbl := B6.lt
  refine pick_ok (k := k + 6) (xs := [u, .tup [.int 0, .int 1], .non]) pk tk B6.app (by omega) at_new (Nat.ne_of_gt hbl) (by simp) (by simp) fun z hz m7 B7 K7 => ?_
  have KK : Keep b m6 m7 := Keep.app.trans K7
  have hv7 := Wr.keep hv KK
  have hu7 := Wr.keep hu6 KK
  have fv := hv7.facts (by omega)
  have fz : okD2 z m7 = true ∧ smallD z = true := by
    simp only [List.mem_cons, List.not_mem_nil, or_false] at hz
    rcases hz with rfl | rfl | rfl
    · exact ⟨(hu7.facts (by omega)).2.2.1, (hu7.facts (by omega)).2.1⟩
    · exact ⟨rfl, by simp [smallD]⟩
    · exact ⟨rfl, rfl⟩
  refine refd_ok (k := k) hf hb hn fv.2.2.1 fv.2.1 fz.1 fz.2 (.inl ⟨fv.1, rfl⟩) hv7 (by omega) fun m8 G8 => ?_
  simp only [tru_bl, Wx_ok, Bool.not_true, Bool.false_eq_true, if_false, evSs_nil, WS_ok, thenQ_next]
  exact q m8 _ _ _ _ ((G8.box _ B7).mono (by omega))
end
end K00
set_option linter.all false
set_option maxRecDepth 100000
set_option maxHeartbeats 400000
set_option exponentiation.threshold 100000
/-! P12: a loop over a list that stands. -/
namespace Ev
open PySem
/-- a for over a list's items, the list left as it is -/
theorem forD_ok {b : D → Lc → Mem → RS} {Q : Out → Mem → Prop} {X : Nat → List D → Lc → Mem → Prop} {a : Nat} {xs : List D} (I : Nat → Lc → Mem → Prop)
    (at_ : ∀ i δ m, I i δ m → m[a]? = some (.lst xs))
    (step : ∀ i d δ m, xs[i]? = some d → I i δ m → WS (b d δ m) (fun o m2 => match o with
        | .next δ' => I (i + 1) δ' m2
        | .cont δ' => I (i + 1) δ' m2
        | .brk δ' => Q (.next δ') m2
        | .ret d => Q (.ret d) m2) X) (fin : ∀ δ m, I xs.length δ m → Q (.next δ) m) : ∀ n i δ m, i ≤ xs.length → xs.length < i + n → I i δ m → WS (forD b a n i δ m) Q X
  | 0, i, δ, m, h, h', _ => absurd h' (by omega)
  | n + 1, i, δ, m, h, h', z => by
    have e : nextD a i m = some xs[i]? := by simp [nextD, at_ i δ m z]
    by_cases hi : i < xs.length
    · have e2 : forD b a (n + 1) i δ m = turnF (b xs[i] δ m) fun δ' m' => forD b a n (i + 1) δ' m' := by
        show (match nextD a i m with
          | some none => RS.ok (.next δ) m
          | some (some d) => turnF (b d δ m) fun δ' m' => forD b a n (i + 1) δ' m'
          | none => .stuck) = _
        rw [e, List.getElem?_eq_getElem hi]
      rw [e2, WS_turn]
      refine WS.imp (step i xs[i] δ m (List.getElem?_eq_getElem hi) z) (fun o m2 q2 => ?_) (fun _ _ _ _ z => z)
      cases o with
      | next δ' => exact forD_ok I at_ step fin n (i + 1) δ' m2 hi (by omega) q2
      | cont δ' => exact forD_ok I at_ step fin n (i + 1) δ' m2 hi (by omega) q2
      | brk δ' => exact q2
      | ret d => exact q2
    · have hl : i = xs.length := by omega
      have e2 : forD b a (n + 1) i δ m = .ok (.next δ) m := by
        show (match nextD a i m with
          | some none => RS.ok (.next δ) m
          | some (some d) => turnF (b d δ m) fun δ' m' => forD b a n (i + 1) δ' m'
          | none => .stuck) = _
        rw [e, List.getElem?_eq_none (by omega)]
      rw [e2]
      exact fin δ m (hl ▸ z)
end Ev
set_option linter.all false
set_option maxRecDepth 100000
set_option maxHeartbeats 400000
set_option exponentiation.threshold 100000
/-! K00j: _law_refusals_right, its second loop. -/
namespace K00
open Ev PySem
section
variable {k b c j : Nat} {m m' : Mem} {d : D}
/-- a wrong top -/
structure Tp (b j : Nat) (m : Mem) (d : D) : Prop where
  ni : isIntD d = false
  cs : (FixN d ∧ ∀ m, eqV d (.int 3) m = some false) ∨ (∃ a i, d = .obj a ∧ a ≠ b ∧ i ≤ j ∧ m[a]? = some (.lst (.int 3 :: List.replicate i (.int 7)))) ∨ ∃ a, d = .obj a ∧ a ≠ b ∧ (m[a]? = some (.dct []) ∨ m[a]? = some (.fdc []))
theorem Tp.wr (h : Tp b j m d) : Wq b (j + 1) m d := by
  rcases h.cs with h | ⟨a, i, rfl, hb, hi, hm⟩ | h
  · exact .inl h.1
  · refine .inr (.inl ⟨a, _, rfl, hb, hm, by simp; omega, fun x hx => ?_⟩)
    rcases List.mem_cons.mp hx with rfl | h
    · exact ⟨_, rfl⟩
    · exact ⟨_, (List.mem_replicate.mp h).2⟩
  · exact .inr (.inr h)
theorem Tp.chg {i : Nat} (h : Tp b j m d) (g : Chg b i m m') : Tp b (j + i) m' d := by
  refine ⟨h.ni, ?_⟩
  rcases h.cs with h | ⟨a, n, rfl, hb, hi, hm⟩ | ⟨a, rfl, hb, hm⟩
  · exact .inl h
  · have ha := (List.getElem?_eq_some_iff.mp hm).1
    rcases g.at_ a ha hb with e | ⟨e1, e2⟩ | ⟨ys, n', hn, e1, e2⟩
    · exact .inr (.inl ⟨a, n, rfl, hb, by omega, by rw [e]; exact hm⟩)
    · rw [hm] at e1; cases e1
    · rw [hm] at e1
      cases e1
      refine .inr (.inl ⟨a, n + n', rfl, hb, by omega, ?_⟩)
      rw [e2, List.cons_append, List.replicate_append_replicate]
  · have ha : a < m.length := by rcases hm with h | h <;> exact (List.getElem?_eq_some_iff.mp h).1
    rcases g.at_ a ha hb with e | ⟨e1, e2⟩ | ⟨ys, n', hn, e1, e2⟩
    · exact .inr (.inr ⟨a, rfl, hb, by rw [e]; exact hm⟩)
    · exact .inr (.inr ⟨a, rfl, hb, .inr e2⟩)
    · rcases hm with h | h <;> (rw [h] at e1; cases e1)
theorem Tp.ne (h : Tp b j m d) (hj : j ≤ 3) : cmpV .eq d (.int 3) m = .ok (.bl false) m := by
  show ofB (eqV d (.int 3) m) m = _
  rcases h.cs with h | ⟨a, i, rfl, hb, hi, hm⟩ | ⟨a, rfl, hb, hm⟩
  · rw [h.2]; rfl
  · have e : eqV (.obj a) (.int 3) m = eqW (.obj a) (.int 3) m := by simp [eqV, dctInt, hm]
    rw [e]
    have hi : i = 0 ∨ i = 1 ∨ i = 2 ∨ i = 3 := by omega
    have h2 : toPy m 60 (.int 3) = some (.int 3) := rfl
    rcases hi with rfl | rfl | rfl | rfl <;>
    · unfold eqW
      simp only [toPy, hm, mapO, List.replicate, Option.map_some]
      rfl
  · rcases hm with hm | hm <;> simp [eqV, dctInt, hm, ofB]
end
section
variable {k b c j : Nat} {m : Mem}
def tr30 : List S := [.tr [
      .ex (.ife (.var 1) (.callk 4 [0, 1] [.idx (.var 9) (.lit (.int 0)), .idx (.var 9) (.lit (.int 1))]) (.call 4 [.idx (.var 9) (.lit (.int 0)), .idx (.var 9) (.lit (.int 1))])),
      .ret (.lit (.bl false))] [(2, some 11, [.ife (.or (.cmp .eq (.idx (.var 9) (.lit (.int 0))) (.lit (.int 3))) (.not (.call 24 [.cf 0, .var 10]))) [.ret (.lit (.bl false))] []]), (0, some 11, [.ife (.or (.cmp .ne (.idx (.var 9) (.lit (.int 0))) (.lit (.int 3))) (.not (.call 24 [.cf 0, .var 10]))) [.ret (.lit (.bl false))] []]), (4, none, [.ret (.lit (.bl false))])]]
theorem idx0 {x y : D} {m : Mem} : idxV (.tup [x, y]) (.int 0) m = .ok x m := rfl
theorem idx1 {x y : D} {m : Mem} : idxV (.tup [x, y]) (.int 1) m = .ok y m := rfl
theorem turn_top {n : Bool} {d e : D} {x2 x3 x4 x5 x6 x7 x8 x11 : Option D} (hd : Tp b j m d) (hj : j ≤ 3) {QS : Out → Mem → Prop} {XS : Nat → List D → Lc → Mem → Prop}
    (q : ∀ m', Bld b d m m' → QS (.next [some (.obj b), some (.bl n), x2, x3, x4, x5, x6, x7, x8, some (.tup [d, e]), some d, none]) m') :
    WS (evSs ⟨run P (k + 8), P.sub, P.fld⟩ none tr30 [some (.obj b), some (.bl n), x2, x3, x4, x5, x6, x7, x8, some (.tup [d, e]), some d, x11] m) QS XS := by
  unfold tr30
  rw [evSs_cons, WS_then, WS_tr, evSs_cons, WS_then]
  have fd := hd.wr.facts (by omega)
  have ok : okD d m = true := by
    have := fd.2.1
    simp only [okD2, Bool.and_eq_true] at this
    exact this.1
  have hp : pick [0, 1] [d, e] = some [d, e] := rfl
  have hr : ∀ {Q : D → Mem → Prop} {X : Nat → List D → Mem → Prop}, X 2 [d] m → Wx (run P (k + 8) 4 [d, e] m) Q X := fun x => frac_top (k := k + 5) N fc ok hd.ni x
  simp only [evS_ex, evE_ife, evE_call, evE_callk, evEs_cons, evEs_nil, evE_idx, evE_var, evE_lit, List.getElem?_cons_zero, List.getElem?_cons_succ, Rs.bind_ok, idx0, idx1, tru_bl, WS_of, Wx_bind, Wx_ok, Wx_ite, hp, ite_self]
  refine hr ?_
  refine evHs_yes (psub 2 2 _ rfl) rfl ?_
  have hcf : cfV ⟨run P (k + 8), P.sub, P.fld⟩ (some (2, [d])) 0 = some d := by
    show (if P.fld 2 = some 0 then some d else none) = _
    rw [if_pos (pfld 2 (some 0) rfl)]
  have hne := hd.ne hj
  rw [evSs_cons, WS_then]
  simp only [unset, List.set_cons_succ, List.set_cons_zero, evS_ife, evT_eq, evE_or, evE_not, evE_cmp, evE_call, evEs_cons, evEs_nil, evE_idx, evE_cf, hcf, evE_var, evE_lit, List.getElem?_cons_zero, List.getElem?_cons_succ, Rs.bind_ok, idx0, hne, tru_bl, Bool.false_eq_true, if_false, WS_of, Wx_bind, Wx_ok]
  refine blamed_okq (k := k + 3) bl sm hd.wr (by omega) fun m' B => ?_
  simp only [tru_bl, Wx_ok, Bool.not_true, Bool.false_eq_true, if_false, evSs_nil, WS_ok, thenQ_next, endQ, unset, List.set_cons_succ, List.set_cons_zero]
  exact q m' B
theorem turn_base {n : Bool} {e : D} {x2 x3 x4 x5 x6 x7 x8 x11 : Option D} (he : Wq b c m e) (hi : isIntD e = false ∨ e = .int 0) (hc : c < 900) {QS : Out → Mem → Prop} {XS : Nat → List D → Lc → Mem → Prop}
    (q : ∀ m', Bld b e m m' → QS (.next [some (.obj b), some (.bl n), x2, x3, x4, x5, x6, x7, x8, some (.tup [.int 3, e]), some e, none]) m') :
    WS (evSs ⟨run P (k + 8), P.sub, P.fld⟩ none tr30 [some (.obj b), some (.bl n), x2, x3, x4, x5, x6, x7, x8, some (.tup [.int 3, e]), some e, x11] m) QS XS := by
  unfold tr30
  rw [evSs_cons, WS_then, WS_tr, evSs_cons, WS_then]
  have fd := he.facts (by omega)
  have ok : okD e m = true := by
    have := fd.2.1
    simp only [okD2, Bool.and_eq_true] at this
    exact this.1
  have hp : pick [0, 1] [.int 3, e] = some [.int 3, e] := rfl
  have hr : ∀ {Q : D → Mem → Prop} {X : Nat → List D → Mem → Prop}, X 0 [e] m → Wx (run P (k + 8) 4 [.int 3, e] m) Q X := fun x => frac_base (k := k + 5) N fc ok hi x
  simp only [evS_ex, evE_ife, evE_call, evE_callk, evEs_cons, evEs_nil, evE_idx, evE_var, evE_lit, List.getElem?_cons_zero, List.getElem?_cons_succ, Rs.bind_ok, idx0, idx1, tru_bl, WS_of, Wx_bind, Wx_ok, Wx_ite, hp, ite_self]
  refine hr ?_
  refine evHs_no (psub 0 2 _ rfl) ?_
  refine evHs_yes (psub 0 0 _ rfl) rfl ?_
  have hcf : cfV ⟨run P (k + 8), P.sub, P.fld⟩ (some (0, [e])) 0 = some e := by
    show (if P.fld 0 = some 0 then some e else none) = _
    rw [if_pos (pfld 0 (some 0) rfl)]
  rw [evSs_cons, WS_then]
  have d3 : (decide ((3 : Int) ≠ 3)) = false := by decide
  simp only [unset, List.set_cons_succ, List.set_cons_zero, evS_ife, evT_eq, evE_or, evE_not, evE_cmp, evE_call, evEs_cons, evEs_nil, evE_idx, evE_cf, hcf, evE_var, evE_lit, List.getElem?_cons_zero, List.getElem?_cons_succ, Rs.bind_ok, idx0, cmp_ne_int, d3, tru_bl, Bool.false_eq_true, if_false, WS_of, Wx_bind, Wx_ok]
  refine blamed_okq (k := k + 3) bl sm he hc fun m' B => ?_
  simp only [tru_bl, Wx_ok, Bool.not_true, Bool.false_eq_true, if_false, evSs_nil, WS_ok, thenQ_next, endQ, unset, List.set_cons_succ, List.set_cons_zero]
  exact q m' B
end
end K00
set_option linter.all false
set_option maxRecDepth 100000
set_option maxHeartbeats 400000
set_option exponentiation.threshold 100000
/-! K00k: _law_refusals_right, whole. -/
namespace K00
open Ev PySem
section
variable {k b c : Nat} {m : Mem} {Q : D → Mem → Prop} {X : Nat → List D → Mem → Prop}
theorem f30_eq : P.fns[30]? = some f30 := by rw [Pd]; rfl
def picks30 : List S := [
  .asg (.tup [.nm 7, .nm 8]) (.tup [.call 21 [.var 0, .lst [.lit .non, .lit (.bl true), .lit (.str "3"), .tup [.lit (.int 1), .lit (.int 1)], .lst [.lit (.int 3)], .dct0]], .call 21 [.var 0, .lst [.lit (.int 0), .lit (.bl false), .lit .non, .lit (.bl true), .lit (.str "1"), .lst [.lit (.int 2)], .tup [.lit (.int 1), .lit (.int 2)]]]]),
  .for (.tup [.nm 9, .nm 10]) (.e (.lst [.tup [.tup [.var 7, .lit (.int 2)], .var 7], .tup [.tup [.var 7, .var 8], .var 7], .tup [.tup [.lit (.int 3), .var 8], .var 8]])) tr30,
  .ret (.lit (.bl true))]
theorem fixn_tup {xs : List D} (h2 : smallD (.tup xs) = true) (hl : xs.length ≤ 1000) (h3 : ∀ x ∈ xs, Sm 3 [] x x ∧ ∀ m, okD x m = true) : FixN (.tup xs) := by
  refine ⟨.inr (.inr (.inr (.inr (.inl ⟨_, _, rfl, rfl, hl, ?_⟩)))), fun m => ?_, fun _ => rfl, h2⟩
  · have : ∀ ys : List D, (∀ x ∈ ys, Sm 3 [] x x ∧ ∀ m, okD x m = true) → All2 (Sm 3 []) ys ys := fun ys => by
      induction ys with
      | nil => intro _; exact .nil
      | cons y ys ih => intro h; exact .cons (h y List.mem_cons_self).1 (ih fun x hx => h x (List.mem_cons_of_mem _ hx))
    exact this xs h3
  · simp only [okD2, okD, Bool.true_and]
    exact List.all_eq_true.mpr fun x hx => (h3 x hx).2 m
theorem s3 : SeqAt.shaped (.str "3") = true := by decide +kernel
theorem tops {m' : Mem} {a1 a2 : Nat} (n1 : a1 ≠ b) (n2 : a2 ≠ b) (e1 : m'[a1]? = some (.lst [.int 3])) (e2 : m'[a2]? = some (.dct [])) :
    ∀ x ∈ [D.non, .bl true, .str "3", .tup [.int 1, .int 1], .obj a1, .obj a2], Tp b 0 m' x := by
  refine allc ⟨rfl, .inl ⟨fix_non.n, fun m => rfl⟩⟩ (allc ⟨rfl, .inl ⟨fix_bl.n, fun m => rfl⟩⟩ (allc ⟨rfl, .inl ⟨(fix_str s3).n, fun m => ?_⟩⟩ (allc ⟨rfl, .inl ⟨fixn_tup (by simp [smallD]) (by simp) (allc it_int (allc it_int all0)), fun m => rfl⟩⟩ (allc ⟨rfl, .inr (.inl ⟨a1, 0, rfl, n1, Nat.le_refl _, e1⟩)⟩ (allc ⟨rfl, .inr (.inr ⟨a2, rfl, n2, .inl e2⟩)⟩ all0)))))
  show eqW (.str "3") (.int 3) m = _
  show (if SeqAt.shaped (.str "3") = true ∧ SeqAt.shaped (.int 3) = true then some (PyData.eqv (.str "3") (.int 3)) else none) = _
  rw [if_pos ⟨s3, rfl⟩]
  rfl
theorem bases {m' : Mem} {a1 : Nat} (n1 : a1 ≠ b) (e1 : m'[a1]? = some (.lst [.int 2])) :
    ∀ x ∈ [D.int 0, .bl false, .non, .bl true, .str "1", .obj a1, .tup [.int 1, .int 2]], Wq b 5 m' x ∧ (isIntD x = false ∨ x = .int 0) :=
  allc ⟨.inl fix_int.n, .inr rfl⟩ (allc ⟨.inl fix_bl.n, .inl rfl⟩ (allc ⟨.inl fix_non.n, .inl rfl⟩ (allc ⟨.inl fix_bl.n, .inl rfl⟩ (allc ⟨.inl (fix_str s1).n, .inl rfl⟩ (allc ⟨.inr (.inl ⟨a1, _, rfl, n1, e1, by simp, allc ⟨_, rfl⟩ all0⟩), .inl rfl⟩ (allc ⟨.inl (fixn_tup (by simp [smallD]) (by simp) (allc it_int (allc it_int all0))), .inl rfl⟩ all0))))))
theorem Tp.keep {d : D} {m' : Mem} {j : Nat} (h : Tp b j m d) (K : Keep b m m') : Tp b j m' d := by simpa using h.chg (Chg.of_keep K)
theorem Wq.keep {d : D} {m' : Mem} {j : Nat} (h : Wq b j m d) (K : Keep b m m') : Wq b j m' d := by simpa using h.chg (Chg.of_keep K)
theorem picks_ok {n : Bool} {x2 x3 x4 x5 x6 x7 x8 x9 x10 x11 : Option D} (hB : Box m b c) (hc : c < 800100) (q : ∀ m', Box m' b (c + 2) → Q (.bl true) m') :
    WS (evSs ⟨run P (k + 8), P.sub, P.fld⟩ none picks30 [some (.obj b), some (.bl n), x2, x3, x4, x5, x6, x7, x8, x9, x10, x11] m) (retQ Q) (fun c fs _ m => X c fs m) := by
  unfold picks30
  have hbl := hB.lt
  rw [evSs_cons, WS_then]
  simp only [evS_asg, evE_tup, evE_call, evE_lst, evE_dct0, evEs_cons, evEs_nil, evE_var, evE_lit, List.getElem?_cons_zero, List.getElem?_cons_succ, Rs.bind_ok, newLst, WS_of, Wx_bind, Wx_ok]
  refine pick_ok (k := k + 6) pk tk (hB.app.app.app) (by omega) at_new (by simp; omega) (by simp) (by simp) fun z hz m1 B1 K1 => ?_
  have T0 := tops (b := b) (m' := m ++ [Ob.lst [.int 3]] ++ [.dct []] ++ [.lst [D.non, .bl true, .str "3", .tup [.int 1, .int 1], .obj m.length, .obj (m ++ [Ob.lst [D.int 3]]).length]]) (a1 := m.length) (a2 := (m ++ [Ob.lst [D.int 3]]).length) (by omega) (by simp; omega) (by simp) (by simp) z hz
  have T1 := T0.keep K1
  refine pick_ok (k := k + 6) pk tk (B1.app.app) (by omega) at_new (by simp; have := B1.lt; omega) (by simp) (by simp) fun y hy m2 B2 K2 => ?_
  have W0 := bases (b := b) (m' := m1 ++ [Ob.lst [.int 2]] ++ [.lst [D.int 0, .bl false, .non, .bl true, .str "1", .obj m1.length, .tup [.int 1, .int 2]]]) (a1 := m1.length) (by have := B1.lt; omega) (by simp) y hy
  have W2 := Wq.keep W0.1 K2
  have T2 := T1.keep ((Keep.app.trans Keep.app).trans K2)
  simp only [Wx_ok, stTg_tup, stTgs_cons, stTgs_nil, stTg_nm, List.length_cons, List.length_nil, List.length_set, Nat.reduceAdd, Nat.reduceLT, if_true, stThen_some, List.set_cons_succ, List.set_cons_zero, WS_ok, thenQ_next]
  rw [evSs_cons, WS_then]
  simp only [evS_for, evIt_e, evE_lst, evE_tup, evEs_cons, evEs_nil, evE_var, evE_lit, List.getElem?_cons_zero, List.getElem?_cons_succ, Rs.bind_ok, newLst, walkOf, at_new, WS_of, Wx_bind, Wx_ok, walkF]
  refine forD_ok (xs := [.tup [.tup [z, .int 2], z], .tup [.tup [z, y], z], .tup [.tup [.int 3, y], y]]) (fun i δ m' => m'[m2.length]? = some (.lst [.tup [.tup [z, .int 2], z], .tup [.tup [z, y], z], .tup [.tup [.int 3, y], y]]) ∧ Tp b i m' z ∧ Wq b (5 + i) m' y ∧ Box m' b (c + 2) ∧ z ≠ .obj m2.length ∧ y ≠ .obj m2.length ∧ ∃ x9 x10 x11, δ = [some (.obj b), some (.bl n), x2, x3, x4, x5, x6, some z, some y, x9, x10, x11]) (fun i δ m' h => h.1) (fun i d δ m' hd hI => ?_) (fun δ m' hI => ?_) _ _ _ _ (Nat.zero_le _) (by simp [line]) ⟨at_new, T2.keep Keep.app, Wq.keep W2 Keep.app, (B2.mono (by omega)).app, T2.wr.new (Nat.le_refl _), W2.new (Nat.le_refl _), _, _, _, rfl⟩
  · obtain ⟨ha, hT, hW, hBx, hz1, hy1, x9, x10, x11, rfl⟩ := hI
    have hi : i = 0 ∨ i = 1 ∨ i = 2 := by
      have := (List.getElem?_eq_some_iff.mp hd).1
      simp at this
      omega
    rcases hi with rfl | rfl | rfl
    · cases hd
      simp only [stTg_tup, stTgs_cons, stTgs_nil, stTg_nm, List.length_cons, List.length_nil, List.length_set, Nat.reduceAdd, Nat.reduceLT, if_true, stThen_some, List.set_cons_succ, List.set_cons_zero]
      refine turn_top (k := k) hT (by omega) fun m3 G => ?_
      exact ⟨G.oth _ _ ha hz1, hT.chg G.chg, hW.chg G.chg, G.box _ hBx, hz1, hy1, _, _, _, rfl⟩
    · cases hd
      simp only [stTg_tup, stTgs_cons, stTgs_nil, stTg_nm, List.length_cons, List.length_nil, List.length_set, Nat.reduceAdd, Nat.reduceLT, if_true, stThen_some, List.set_cons_succ, List.set_cons_zero]
      refine turn_top (k := k) hT (by omega) fun m3 G => ?_
      exact ⟨G.oth _ _ ha hz1, hT.chg G.chg, hW.chg G.chg, G.box _ hBx, hz1, hy1, _, _, _, rfl⟩
    · cases hd
      simp only [stTg_tup, stTgs_cons, stTgs_nil, stTg_nm, List.length_cons, List.length_nil, List.length_set, Nat.reduceAdd, Nat.reduceLT, if_true, stThen_some, List.set_cons_succ, List.set_cons_zero]
      refine turn_base (k := k) hW W0.2 (by omega) fun m3 G => ?_
      exact ⟨G.oth _ _ ha hy1, hT.chg G.chg, hW.chg G.chg, G.box _ hBx, hz1, hy1, _, _, _, rfl⟩
  · obtain ⟨ha, hT, hW, hBx, hz1, hy1, x9, x10, x11, rfl⟩ := hI
    simp only [thenQ_next]
    rw [evSs_cons, WS_then]
    simp only [evS_ret, evE_lit, WS_of, Wx_ok, WS_ok, thenQ_ret, retQ_ret]
    exact q _ hBx
theorem refusals_ok {n : Bool} (hB : Box m b c) (hc : c < 700000) (q : ∀ m', Box m' b (c + 60) → Q (.bl true) m') : Wx (run P (k + 9) 30 [.obj b, .bl n] m) Q X := by
  refine call_f f30_eq rfl ?_
  simp only [f30, Ev.start, List.map_cons, List.map_nil, List.length_cons, List.length_nil, List.replicate, List.cons_append, List.nil_append, Nat.reduceAdd, Nat.reduceSub]
  rw [evSs_cons, WS_then]
  simp only [evS_for, evIt_e, evE_tup, evEs_cons, evEs_nil, evE_lit, Rs.bind_ok, walkOf, WS_of, Wx_ok, walkF]
  refine for_ok (fun ds δ m' => (∀ d ∈ ds, d ∈ fns5) ∧ (∃ c', Box m' b c' ∧ c' + 10 * ds.length ≤ c + 50) ∧ ∃ x2 x3 x4 x5 x6 x7 x8 x9 x10 x11, δ = [some (.obj b), some (.bl n), x2, x3, x4, x5, x6, x7, x8, x9, x10, x11]) (fun t ds δ m' hI => ?_) (fun δ m' hI => ?_) _ _ _ ⟨fun d h => h, ⟨c, hB, by simp⟩, _, _, _, _, _, _, _, _, _, _, rfl⟩
  · obtain ⟨hds, ⟨c', B, hc'⟩, x2, x3, x4, x5, x6, x7, x8, x9, x10, x11, rfl⟩ := hI
    obtain ⟨f, fd, rest, rfl, hf, hb, hn⟩ := calls5 _ (hds _ List.mem_cons_self)
    simp only [List.length_cons] at hc'
    simp only [stTg_nm, List.length_cons, List.length_nil, Nat.reduceAdd, Nat.reduceLT, if_true, stThen_some, List.set_cons_succ, List.set_cons_zero]
    refine refusals_turn (k := k) hf hb hn B (by omega) fun m2 y3 y4 y5 y6 B2 => ?_
    exact ⟨fun d h => hds d (List.mem_cons_of_mem _ h), ⟨_, B2, by omega⟩, _, _, _, _, _, _, _, _, _, _, rfl⟩
  · obtain ⟨hds, ⟨c', B, hc'⟩, x2, x3, x4, x5, x6, x7, x8, x9, x10, x11, rfl⟩ := hI
    simp only [thenQ_next]
    exact picks_ok (k := k) B (by simp at hc'; omega) fun m2 B2 => q m2 (B2.mono (by simp at hc'; omega))
end
end K00
set_option linter.all false
set_option maxRecDepth 100000
set_option maxHeartbeats 400000
set_option exponentiation.threshold 100000
/-! K00l: the law. -/
namespace K00
open Ev PySem
section
variable {k b c : Nat} {m : Mem} {Q : D → Mem → Prop} {X : Nat → List D → Mem → Prop}
theorem f31_eq : P.fns[31]? = some f31 := by rw [Pd]; rfl
theorem Box.scr {m : Mem} {b c : Nat} (h : Box m b c) : Scr m := by
  obtain ⟨_, _, _, _, _, _, _, _, _, h⟩ := h
  exact h
theorem law_turn {j : Nat} {x2 x3 : Option D} (hS : Scr m) (hj : j < 1000) {QS : Out → Mem → Prop} {XS : Nat → List D → Lc → Mem → Prop} (q : ∀ m' y2 y3, Scr m' → QS (.next [some (.obj 0), some (.int j), y2, y3]) m') :
    WS (evSs ⟨run P (k + 9), P.sub, P.fld⟩ none [
    .asg (.nm 2) (.call 19 [.call 18 [.var 0, .var 1]]),
    .asg (.nm 3) (.cmp .eq (.call 20 [.var 2, .lit (.int 2)]) (.lit (.int 0))),
    .ife (.or (.not (.call 27 [.var 2, .var 3])) (.not (.call 28 [.var 2, .not (.var 3)]))) [.ret (.lit (.bl false))] [],
    .ife (.or (.not (.call 28 [.var 2, .var 3])) (.not (.call 30 [.var 2, .var 3]))) [.ret (.lit (.bl false))] []] [some (.obj 0), some (.int j), x2, x3] m) QS XS := by
  obtain ⟨ns, hm⟩ := hS
  rw [evSs_cons, WS_then]
  simp only [evS_asg, evE_call, evEs_cons, evEs_nil, evE_var, List.getElem?_cons_zero, List.getElem?_cons_succ, Rs.bind_ok, WS_of, Wx_bind, Wx_ok]
  refine cell_ok (k := k + 8) hm j hj fun v m1 g1 => ?_
  refine box_ok (k := k + 8) (Scr.grow ⟨ns, hm⟩ g1) v fun m2 g2 B2 => ?_
  simp only [stTg_nm, List.length_cons, List.length_nil, Nat.reduceAdd, Nat.reduceLT, if_true, stThen_some, List.set_cons_succ, List.set_cons_zero, WS_ok, thenQ_next]
  generalize m1.length = b at B2 ⊢
  rw [evSs_cons, WS_then]
  simp only [evS_asg, evE_cmp, evE_call, evEs_cons, evEs_nil, evE_var, evE_lit, List.getElem?_cons_zero, List.getElem?_cons_succ, Rs.bind_ok, WS_of, Wx_bind, Wx_ok]
  refine take_ok (k := k + 8) (n := 2) tk B2 (by omega) (by omega) (by omega) fun d m3 hd B3 K3 hl3 => ?_
  simp only [cmp_eq_int, Wx_ok, stTg_nm, List.length_cons, List.length_nil, Nat.reduceAdd, Nat.reduceLT, if_true, stThen_some, List.set_cons_succ, List.set_cons_zero, WS_ok, thenQ_next]
  generalize decide ((d : Int) = 0) = n
  rw [evSs_cons, WS_then]
  simp only [evS_ife, evT_eq, evE_or, evE_not, evE_call, evEs_cons, evEs_nil, evE_var, List.getElem?_cons_zero, List.getElem?_cons_succ, Rs.bind_ok, tru_bl, WS_of, Wx_bind, Wx_ok]
  refine fractions_ok (k := k) B3 (by omega) fun m4 B4 => ?_
  simp only [tru_bl, Wx_ok, Bool.not_true, Bool.false_eq_true, if_false, Wx_bind]
  refine sums_ok (k := k) B4 (by omega) fun m5 B5 => ?_
  simp only [tru_bl, Wx_ok, Bool.not_true, Bool.false_eq_true, if_false, evSs_nil, WS_ok, thenQ_next]
  rw [evSs_cons, WS_then]
  simp only [evS_ife, evT_eq, evE_or, evE_not, evE_call, evEs_cons, evEs_nil, evE_var, List.getElem?_cons_zero, List.getElem?_cons_succ, Rs.bind_ok, tru_bl, WS_of, Wx_bind, Wx_ok]
  refine sums_ok (k := k) B5 (by omega) fun m6 B6 => ?_
  simp only [tru_bl, Wx_ok, Bool.not_true, Bool.false_eq_true, if_false, Wx_bind]
  refine refusals_ok (k := k) B6 (by omega) fun m7 B7 => ?_
  simp only [tru_bl, Wx_ok, Bool.not_true, Bool.false_eq_true, if_false, evSs_nil, WS_ok, thenQ_next]
  exact q m7 _ _ (Box.scr B7)
theorem law_ok (ns : List Int) (h : ns.length ≤ 63) : Wx (run P (k + 10) 31 [.obj 0] [.fro (ns.map D.int)]) (fun d _ => d = .bl true) NX := by
  refine call_f f31_eq rfl ?_
  simp only [f31, Ev.start, List.map_cons, List.map_nil, List.length_cons, List.length_nil, List.replicate, List.cons_append, List.nil_append, Nat.reduceAdd, Nat.reduceSub]
  rw [evSs_cons, WS_then]
  have hlen : bltV .len [.obj 0] [Ob.fro (ns.map D.int)] = .ok (.int ns.length) [Ob.fro (ns.map D.int)] := by simp [bltV]
  have hmin : bltV .min2 [.int 3, .int ns.length] [Ob.fro (ns.map D.int)] = .ok (.int (if (ns.length : Int) < 3 then ns.length else 3)) [Ob.fro (ns.map D.int)] := rfl
  simp only [evS_for, evIt_r1, evE_blt, evEs_cons, evEs_nil, evE_var, evE_lit, List.getElem?_cons_zero, List.getElem?_cons_succ, Rs.bind_ok, hlen, hmin, blt_max2, WS_of, Wx_ok]
  obtain ⟨N, hN, hN3⟩ : ∃ N : Nat, mx 2 (if (ns.length : Int) < 3 then ns.length else 3) = (N : Int) ∧ N ≤ 3 := by
    unfold mx
    split <;> split <;> first | exact ⟨ns.length, rfl, by omega⟩ | exact ⟨3, rfl, by omega⟩ | exact ⟨2, rfl, by omega⟩
  rw [hN]
  have hr : r1V (.int (N : Int)) [Ob.fro (ns.map D.int)] = .ok (.con (rng 0 (N : Int))) [Ob.fro (ns.map D.int)] := by
    simp only [r1V]
    rw [if_pos]
    unfold bnd
    simp only [Bool.and_eq_true, decide_eq_true_eq]
    omega
  rw [hr]
  simp only [Wx_ok, walkF]
  refine for_ok (fun ds δ m' => (∀ d ∈ ds, ∃ j : Nat, j < N ∧ d = .int (j : Int)) ∧ Scr m' ∧ ∃ x1 x2 x3, δ = [some (.obj 0), x1, x2, x3]) (fun t ds δ m' hI => ?_) (fun δ m' hI => ?_) _ _ _ ⟨fun d hd => rng_mem hd, ⟨ns, rfl⟩, _, _, _, rfl⟩
  · obtain ⟨hds, hS, x1, x2, x3, rfl⟩ := hI
    obtain ⟨j, hj, rfl⟩ := hds t List.mem_cons_self
    simp only [stTg_nm, List.length_cons, List.length_nil, Nat.reduceAdd, Nat.reduceLT, if_true, stThen_some, List.set_cons_succ, List.set_cons_zero]
    refine law_turn (k := k) hS (by omega) fun m2 y2 y3 S2 => ?_
    exact ⟨fun d hd => hds d (List.mem_cons_of_mem _ hd), S2, _, _, _, rfl⟩
  · obtain ⟨hds, hS, x1, x2, x3, rfl⟩ := hI
    simp only [thenQ_next]
    rw [evSs_cons, WS_then]
    simp only [evS_ret, evE_lit, WS_of, Wx_ok, WS_ok, thenQ_ret, retQ_ret]
end
theorem law_run (ns : List Int) (h : ns.length ≤ 63) : ∃ m, Ev.run L.pr 60 31 [.obj 0] [.fro (ns.map Ev.D.int)] = .ok (.bl true) m := by
  have w := law_ok (k := 50) ns h
  rw [← Pd]
  show ∃ m, Ev.run P (50 + 10) 31 [.obj 0] [.fro (ns.map Ev.D.int)] = .ok (.bl true) m
  cases e : Ev.run P (50 + 10) 31 [.obj 0] [.fro (ns.map Ev.D.int)] with
  | ok d m => rw [e] at w; exact ⟨m, by rw [show d = .bl true from w]⟩
  | exc c fs m => rw [e] at w; exact w.elim
  | stuck => rw [e] at w; exact w.elim
end K00
set_option linter.all false
set_option maxRecDepth 100000
set_option maxHeartbeats 0

open PySem PySem.W PySem.Calls PyProof.Rows
theorem PySem.Challenge.cw_fivetimes_k00_numbers_holds : PySem.Challenge.rw_fivetimes_k00_numbers.Holds := by
  w_on; o_law
  refine HandSHeadRun.head_any (r := OpenLaw.row PySem.Challenge.rw_fivetimes_k00_numbers) (q := K00.qv) (H := K00.L.hook 5) (ob := K00.L.ob 5) (M := 4000) (loose := K00.names) (d := HandSHeadRun.topDef (OpenLaw.row PySem.Challenge.rw_fivetimes_k00_numbers).prog 42) (kwd := [])
    (fun s => EvC.ob_eq s) (by kernel_rfl) (fun s => by kernel_rfl) K00.headrun (by kernel_rfl) (by kernel_rfl) (by kernel_rfl) (by rfl) (by first | assumption | decide +kernel) (by decide +kernel) ⟨rfl, rfl, rfl, rfl, rfl, by decide +kernel⟩ ?hw ?hc
  case hw => w_witness2
  case hc => exact EvC.the_end (L := K00.L) (l := PySem.Challenge.rw_fivetimes_k00_numbers) (n := 63) (kk := 60) (i := 31) (d := K00.dOf 42) (x := "script") rfl (by decide) (by kernel_rfl) ⟨rfl, by decide, by decide⟩ K00.st K00.cp rfl (by kernel_rfl) (by kernel_rfl) K00.law_run
