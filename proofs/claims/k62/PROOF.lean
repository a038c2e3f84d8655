import PyProof.Rows.All
import Wide.All
import OpenK.AllK
import Wide.FinOn
import PyProof.EqLayable
import HandS.ForMost
import HandS.Exc
import HandS.TryOnly
import HandS.ExcOwn
import HandS.WordsExc
import HandS.CallSlots
import HandS.HotCalls
import HandS.TupAny
import HandS.TupMul
import HandS.TupLe
import HandS.TupSets
import HandS.Set
import HandS.SetFor
import HandS.Strs
import HandS.Zip
import HandS.IsInst
import HandS.Deep
import HandS.More
import HandS.Conv
import HandS.Style
import HandS.Walk
import HandS.RevTup
import HandS.EndBits
import PyProof.Draws
import PyProof.MinMaxWalk
import PyProof.MaxThree
import KE.KTupSum
import PySem.Challenge.RW_stillflow_k62_whole_within
set_option Elab.async false
set_option linter.all false
set_option maxRecDepth 100000
set_option maxHeartbeats 4000000
/-! The plain meaning of a small language: values, expressions, statements. -/
namespace SF
open PySem
abbrev D := PyData

/-- an answer, a refusal by its class, or nothing told -/
inductive R (α : Type) where
  | ok (a : α) | ex (c : Nat) | bad
def R.bind {α β : Type} (r : R α) (f : α → R β) : R β := match r with
  | .ok a => f a
  | .ex c => .ex c
  | .bad => .bad
instance : Monad R where
  pure := R.ok
  bind := R.bind
@[simp] theorem ok_bind {α β : Type} (a : α) (f : α → R β) : (R.ok a >>= f) = f a := rfl
@[simp] theorem ex_bind {α β : Type} (c : Nat) (f : α → R β) : ((R.ex c : R α) >>= f) = R.ex c := rfl
@[simp] theorem bad_bind {α β : Type} (f : α → R β) : ((R.bad : R α) >>= f) = R.bad := rfl
@[simp] theorem pure_ok {α : Type} (a : α) : (pure a : R α) = R.ok a := rfl

abbrev Env := List (Option D)
def getV (s : Env) (i : Nat) : R D := match s.getD i none with
  | some d => .ok d
  | none => .bad
def wipeE (s : Env) : List Nat → Env
  | [] => s
  | k :: ks => (wipeE s ks).set k none

def truthy : D → R Bool
  | .none => .ok false
  | .bool b => .ok b
  | .int i => .ok (i != 0)
  | .list xs => .ok (!xs.isEmpty)
  | .tuple xs => .ok (!xs.isEmpty)
  | _ => .bad
def cstD : Const → R D
  | .none => .ok .none
  | .bool b => .ok (.bool b)
  | .int i => .ok (.int i)
  | .str x => .ok (.str x)
  | _ => .bad

inductive Ty where
  | int | bool | tuple | list
inductive Op1 where
  | neg | len | tupleOf | listOf | sum | any | all | sorted | intOf | abs | strOf | isInst (t : Ty) | rev | lenSet | sortedSet | min1
inductive Op2 where
  | add | sub | mul | fdiv | mod | eq | ne | lt | le | gt | ge | isin | notin | idx | to | from_ | min2 | max2 | is_ | isNot
inductive Op3 where
  | min3

/-! ### sequences -/
def seqD : D → R (List D)
  | .list xs => .ok xs
  | .tuple xs => .ok xs
  | _ => .bad
def intsD : List D → R (List Int)
  | [] => .ok []
  | .int i :: r => do let is ← intsD r; .ok (i :: is)
  | _ :: _ => .bad
def boolsD : List D → R (List Bool)
  | [] => .ok []
  | .bool i :: r => do let is ← boolsD r; .ok (i :: is)
  | _ :: _ => .bad
def tupsD : List D → R (List (List Int))
  | [] => .ok []
  | .tuple xs :: r => do let x ← intsD xs; let is ← tupsD r; .ok (x :: is)
  | _ :: _ => .bad
/-- the place among n that an index of any sign means -/
def placeD (n : Nat) (i : Int) : Option Nat :=
  if 0 ≤ i then (if i < n then some i.toNat else none) else if -(n : Int) ≤ i then some (i + n).toNat else none
/-- a slice's bound -/
def cutIx (n : Nat) (v : Int) : Nat := if v < 0 then (v + (n : Int)).toNat else min v.toNat n
def toL {α : Type} (xs : List α) (v : Int) : List α := xs.take (cutIx xs.length v)
def fromL {α : Type} (xs : List α) (v : Int) : List α := xs.drop (cutIx xs.length v)
def sliceL {α : Type} (xs : List α) (v u : Int) : List α := (xs.drop (cutIx xs.length v)).take (cutIx xs.length u - cutIx xs.length v)
/-- lists of ints in their order -/
def lexLe : List Int → List Int → Bool
  | [], _ => true
  | _ :: _, [] => false
  | x :: xs, y :: ys => if x = y then lexLe xs ys else decide (x < y)
def insL (le : List Int → List Int → Bool) (x : List Int) : List (List Int) → List (List Int)
  | [] => [x]
  | y :: r => if le x y then x :: y :: r else y :: insL le x r
def sortL : List (List Int) → List (List Int)
  | [] => []
  | x :: r => insL lexLe x (sortL r)
def dedupL {α : Type} [DecidableEq α] : List α → List α
  | [] => []
  | x :: r => if x ∈ r then dedupL r else x :: dedupL r
def insI (x : Int) : List Int → List Int
  | [] => [x]
  | y :: r => if x ≤ y then x :: y :: r else y :: insI x r
def sortI : List Int → List Int
  | [] => []
  | x :: r => insI x (sortI r)
def tupD (ns : List Int) : D := .tuple (ns.map .int)
/-- tuples of d ints in [0, 64) -/
def okTups (d : Nat) (xs : List (List Int)) : Bool := decide (1 ≤ d) && decide (xs.length < 64) && xs.all fun x => decide (x.length = d) && x.all fun i => decide (0 ≤ i) && decide (i < 64)
def sortedD (xs : List D) : R D := match tupsD xs with
  | .ok ts => if okTups ((ts.headD []).length) ts || ts.isEmpty then .ok (.list ((sortL ts).map tupD)) else .bad
  | _ => match intsD xs with
    | .ok is => if is.length < 64 then .ok (.list ((sortI is).map .int)) else .bad
    | _ => .bad
def sortedSetD (xs : List D) : R D := match tupsD xs with
  | .ok ts => if okTups ((ts.headD []).length) ts || ts.isEmpty then .ok (.list ((sortL (dedupL ts)).map tupD)) else .bad
  | _ => .bad
def lenSetD (xs : List D) : R D := match intsD xs with
  | .ok is => if is.length < 64 then .ok (.int ((dedupL is).length)) else .bad
  | _ => .bad
def isTy : Ty → D → R Bool
  | .int, .int _ => .ok true
  | .int, .bool _ => .ok true
  | .bool, .bool _ => .ok true
  | .tuple, .tuple _ => .ok true
  | .list, .list _ => .ok true
  | _, .dict _ => .bad
  | _, _ => .ok false
def isNoneD : D → Bool
  | .none => true
  | _ => false
def noDict : D → Bool
  | .dict _ => false
  | _ => true

def op1D : Op1 → D → R D
  | .neg, .int i => .ok (.int (-i))
  | .len, .list xs => .ok (.int xs.length)
  | .len, .tuple xs => .ok (.int xs.length)
  | .tupleOf, .list xs => .ok (.tuple xs)
  | .tupleOf, .tuple xs => .ok (.tuple xs)
  | .listOf, .list xs => .ok (.list xs)
  | .listOf, .tuple xs => .ok (.list xs)
  | .sum, .list xs => do let is ← intsD xs; .ok (.int is.sum)
  | .sum, .tuple xs => do let is ← intsD xs; .ok (.int is.sum)
  | .any, .list xs => do let bs ← boolsD xs; .ok (.bool (bs.any id))
  | .all, .list xs => do let bs ← boolsD xs; .ok (.bool (bs.all id))
  | .sorted, .list xs => sortedD xs
  | .intOf, .int i => .ok (.int i)
  | .intOf, .bool b => .ok (.int (if b then 1 else 0))
  | .abs, .int i => .ok (.int (if i < 0 then -i else i))
  | .strOf, .int i => if i.natAbs < 1000000 then .ok (.str (toString i)) else .bad
  | .isInst t, d => do let b ← isTy t d; .ok (.bool b)
  | .rev, .list xs => .ok (.list xs.reverse)
  | .rev, .tuple xs => .ok (.tuple xs.reverse)
  | .lenSet, .list xs => lenSetD xs
  | .lenSet, .tuple xs => lenSetD xs
  | .sortedSet, .list xs => sortedSetD xs
  | _, _ => .bad

/-! ### two operands -/
def eqD (a b : D) : R Bool := if SeqAt.shaped a && SeqAt.shaped b then .ok (PyData.eqv a b) else .bad
def anyEq (xs : List D) (d : D) : Bool := xs.any fun z => PyData.eqv z d
def findEq (d : D) : Nat → List D → Option Nat
  | _, [] => none
  | k, z :: r => if PyData.eqv z d then some k else findEq d (k + 1) r
def inD (d : D) : D → R Bool
  | .list xs => if SeqAt.shaped d && SeqAt.shaped (.list xs) then .ok (anyEq xs d) else .bad
  | .tuple xs => if SeqAt.shaped d && SeqAt.shaped (.tuple xs) then .ok (anyEq xs d) else .bad
  | _ => .bad
def repL {α : Type} (xs : List α) (k : Int) : List α := (List.replicate k.toNat xs).flatten
def small64 (i : Int) : Bool := decide (-18446744073709551616 < i) && decide (i < 18446744073709551616)
def mulD : D → D → R D
  | .int i, .int j => if small64 i || small64 j then .ok (.int (i * j)) else .bad
  | .list xs, .int k => if decide (k ≤ 1000) && decide (-1000000 < k) && decide (xs.length ≤ 1000) then .ok (.list (repL xs k)) else .bad
  | .tuple xs, .int k => if decide (k ≤ 1000) && decide (-1000000 < k) && decide (xs.length ≤ 1000) then .ok (.tuple (repL xs k)) else .bad
  | _, _ => .bad
def addD : D → D → R D
  | .int i, .int j => .ok (.int (i + j))
  | .str a, .str b => if a.length + b.length ≤ 1000000 then .ok (.str (a ++ b)) else .bad
  | .list a, .list b => if a.length + b.length ≤ 1000000 then .ok (.list (a ++ b)) else .bad
  | .tuple a, .tuple b => if a.length + b.length ≤ 1000000 then .ok (.tuple (a ++ b)) else .bad
  | _, _ => .bad
def ltD : D → D → R Bool
  | .int i, .int j => .ok (decide (i < j))
  | _, _ => .bad
def leD : D → D → R Bool
  | .int i, .int j => .ok (decide (i ≤ j))
  | _, _ => .bad
def geD : D → D → R Bool
  | .int i, .int j => .ok (decide (j ≤ i))
  | .tuple a, .tuple b => do let x ← intsD a; let y ← intsD b; .ok (lexLe y x)
  | _, _ => .bad
def isD : D → D → R Bool
  | a, .none => .ok (isNoneD a)
  | _, _ => .bad
def idxL (xs : List D) (i : Int) : R D := match (placeD xs.length i).bind fun j => xs[j]? with
  | some d => .ok d
  | none => .bad
def strsD : List D → R (List Str)
  | [] => .ok []
  | .str i :: r => do let is ← strsD r; .ok (i :: is)
  | _ :: _ => .bad
def indexD (xs : List D) (d : D) : R D := if SeqAt.shaped d && SeqAt.shaped (.list xs) then (match findEq d 0 xs with
  | some k => .ok (.int k)
  | none => .bad) else .bad
def countD (xs : List D) (d : D) : R D := if SeqAt.shaped d && SeqAt.shaped (.list xs) then .ok (.int ((xs.filter fun z => PyData.eqv z d).length)) else .bad
def bl (r : R Bool) : R D := do let b ← r; .ok (.bool b)
def op2D : Op2 → D → D → R D
  | .add, a, b => addD a b
  | .sub, .int i, .int j => .ok (.int (i - j))
  | .mul, a, b => mulD a b
  | .fdiv, .int i, .int j => if decide (0 < j) && decide (j < 1073741824) then .ok (.int (i / j)) else .bad
  | .mod, .int i, .int j => if 0 < j then .ok (.int (i % j)) else .bad
  | .eq, a, b => bl (eqD a b)
  | .ne, a, b => bl (do let e ← eqD a b; .ok (!e))
  | .lt, a, b => bl (ltD a b)
  | .le, a, b => bl (leD a b)
  | .gt, a, b => bl (ltD b a)
  | .ge, a, b => bl (geD a b)
  | .is_, a, b => bl (isD a b)
  | .isNot, a, b => bl (do let e ← isD a b; .ok (!e))
  | .isin, a, b => bl (inD a b)
  | .notin, a, b => bl (do let e ← inD a b; .ok (!e))
  | .idx, .list xs, .int i => idxL xs i
  | .idx, .tuple xs, .int i => idxL xs i
  | .to, .list xs, .int i => .ok (.list (toL xs i))
  | .to, .tuple xs, .int i => .ok (.tuple (toL xs i))
  | .from_, .list xs, .int i => .ok (.list (fromL xs i))
  | .from_, .tuple xs, .int i => .ok (.tuple (fromL xs i))
  | .min2, .int i, .int j => .ok (.int (if j < i then j else i))
  | .max2, .int i, .int j => .ok (.int (if j > i then j else i))
  | _, _, _ => .bad
def op3D : Op3 → D → D → D → R D
  | .min3, .int i, .int j, .int k => .ok (.int (let m := if j < i then j else i; if k < m then k else m))
  | _, _, _, _ => .bad

def sliceO (d : D) (i : Int) (e : D) : R D := match e with
  | .int j => (match d with
    | .list xs => .ok (.list (sliceL xs i j))
    | .tuple xs => .ok (.tuple (sliceL xs i j))
    | _ => .bad)
  | _ => .bad
def intOf (r : R D) : R Int := match r with
  | .ok (.int i) => .ok i
  | .ok _ => .bad
  | .ex c => .ex c
  | .bad => .bad
mutual
/-- no list is in it -/
def noList : D → Bool
  | .none => true
  | .bool _ => true
  | .int _ => true
  | .str _ => true
  | .tuple xs => noLists xs
  | .list _ => false
  | .dict _ => false
def noLists : List D → Bool
  | [] => true
  | x :: r => noList x && noLists r
end
/-! ### expressions -/
inductive T where
  | name (i : Nat) | tup (is : List Nat)
abbrev Fn := List D → R D
inductive E where
  | var (i : Nat)
  | cst (c : Const)
  | glob (x : String) (c : Const)
  | op1 (o : Op1) (a : E)
  | op2 (o : Op2) (a b : E)
  | op3 (o : Op3) (a b c : E)
  | chain (o o' : Op2) (a b c : E)
  | andE (a b : E)
  | orE (a b : E)
  | oneE (a : E)
  | notE (a : E)
  | ite (c a b : E)
  | tup (es : E)
  | lst (es : E)
  | nil
  | cons (e es : E)
  | call (f : String) (g : Fn) (es : E)
  | index (a b : E)
  | slice (a b c : E)
  | flat (a : E)
  | lc (own : List Nat) (t : T) (it c e : E)
  | itSeq (a : E)
  | itRange (a : E)
  | itRange2 (a b : E)
  | itEnum (a : E)
  | itZip (a b : E)

def setAll : List Nat → List D → Env → R Env
  | [], [], s => .ok s
  | i :: is, d :: ds, s => setAll is ds (s.set i (some d))
  | _, _, _ => .bad
def bindT : T → D → Env → R Env
  | .name i, d, s => .ok (s.set i (some d))
  | .tup is, .tuple ds, s => if is.length = ds.length then setAll is ds s else .bad
  | .tup _, _, _ => .bad
def enumD : Nat → List D → List D
  | _, [] => []
  | k, x :: r => .tuple [.int k, x] :: enumD (k + 1) r
def zipD : List D → List D → List D
  | x :: xs, y :: ys => .tuple [x, y] :: zipD xs ys
  | _, _ => []
def rangeD (a : Int) : Nat → List D
  | 0 => []
  | n + 1 => .int a :: rangeD (a + 1) n
def lcD (f : D → R (Option D)) : List D → R (List D)
  | [] => .ok []
  | x :: r => match f x with
    | .ok (some y) => do let ys ← lcD f r; .ok (y :: ys)
    | .ok none => lcD f r
    | _ => .bad
/-- a turn of a comprehension -/
def lcF (t : T) (vs : List Nat) (fc : Env → R Bool) (fe : Env → R D) (s : Env) (x : D) : R (Option D) := do
  let s' ← bindT t x (wipeE s vs)
  let k ← fc s'
  if k then (do let y ← fe s'; .ok (some y)) else .ok none
def tupleOf (r : R D) : R (List D) := match r with
  | .ok (.tuple ds) => .ok ds
  | .ok _ => .bad
  | .ex c => .ex c
  | .bad => .bad
def listOf (r : R D) : R (List D) := match r with
  | .ok (.list ds) => .ok ds
  | .ok _ => .bad
  | .ex c => .ex c
  | .bad => .bad
def boolOf (r : R D) : R Bool := match r with
  | .ok (.bool b) => .ok b
  | .ok _ => .bad
  | .ex c => .ex c
  | .bad => .bad
def small62 (i : Int) : Bool := decide (-4611686018427387904 ≤ i) && decide (i < 4611686018427387904)
def rngD (i j : Int) : R D := if small62 i && small62 j && decide (j - i ≤ 1000000) then .ok (.list (rangeD i (j - i).toNat)) else .bad

def rngOne : D → R D
  | .int j => rngD 0 j
  | _ => .bad
def rngTwo : D → D → R D
  | .int i, .int j => rngD i j
  | _, _ => .bad
def den : E → Env → R D
  | .var i, s => getV s i
  | .cst c, _ => cstD c
  | .glob _ c, _ => cstD c
  | .op1 o a, s => do let x ← den a s; op1D o x
  | .op2 o a b, s => do let x ← den a s; let y ← den b s; op2D o x y
  | .op3 o a b c, s => do let x ← den a s; let y ← den b s; let z ← den c s; op3D o x y z
  | .chain o o' a b c, s => do
    let x ← den a s
    let y ← den b s
    let k ← boolOf (op2D o x y)
    if k then (do let z ← den c s; op2D o' y z) else .ok (.bool false)
  | .andE a b, s => do let k ← boolOf (den a s); if k then den b s else .ok (.bool false)
  | .orE a b, s => do let k ← boolOf (den a s); if k then .ok (.bool true) else den b s
  | .oneE a, s => den a s
  | .notE a, s => do let k ← boolOf (den a s); .ok (.bool (!k))
  | .ite c a b, s => do let x ← den c s; let k ← truthy x; if k then den a s else den b s
  | .tup es, s => do let ds ← tupleOf (den es s); .ok (.tuple ds)
  | .lst es, s => do let ds ← tupleOf (den es s); .ok (.list ds)
  | .nil, _ => .ok (.tuple [])
  | .cons e es, s => do let x ← den e s; let ds ← tupleOf (den es s); .ok (.tuple (x :: ds))
  | .call _ g es, s => do let ds ← tupleOf (den es s); g ds
  | .flat a, s => do let d ← den a s; if noList d then .ok d else .bad
  | .slice a b c, s => do let x ← den a s; let i ← intOf (den b s); let z ← den c s; sliceO x i z
  | .index a b, s => do let xs ← listOf (den a s); let y ← den b s; indexD xs y
  | .lc own t it c e, s => do
    let xs ← listOf (den it s)
    let ys ← lcD (lcF t own (fun s => do let b ← den c s; truthy b) (den e) s) xs
    .ok (.list ys)
  | .itSeq a, s => do let x ← den a s; let xs ← seqD x; .ok (.list xs)
  | .itRange a, s => do let x ← den a s; rngOne x
  | .itRange2 a b, s => do let x ← den a s; let y ← den b s; rngTwo x y
  | .itEnum a, s => do let x ← den a s; let xs ← seqD x; .ok (.list (enumD 0 xs))
  | .itZip a b, s => do let x ← den a s; let y ← den b s; let xs ← seqD x; let ys ← seqD y; .ok (.list (zipD xs ys))

/-! ### statements -/
inductive Out where
  | nx (s : Env) | ret (d : D) | ex (c : Nat) | bad
def andO (o : Out) (f : Env → Out) : Out := match o with
  | .nx s => f s
  | .ret d => .ret d
  | .ex c => .ex c
  | .bad => .bad
def out {α : Type} (r : R α) (f : α → Out) : Out := match r with
  | .ok a => f a
  | .ex c => .ex c
  | .bad => .bad
inductive S where
  | skip
  | seq (a b : S)
  | frz (is : List Nat) (b : S)
  | set (i : Nat) (e : E)
  | setO (i : Nat) (e : E)
  | setT (is : List Nat) (e : E)
  | app (i : Nat) (e : E)
  | ins (i : Nat) (a b : E)
  | ext (i : Nat) (e : E)
  | put (i : Nat) (a b : E)
  | ifS (c : E) (a b : S)
  | forS (kill : List Nat) (t : T) (it : E) (body : S)
  | whileS (n : Nat) (kill : List Nat) (c : E) (body : S)
  | ret (e : E)
  | raise (x : String) (c : Nat)
  | exp (e : E)

def forD (f : D → Env → Out) : List D → Env → Out
  | [], s => .nx s
  | x :: r, s => andO (f x s) (forD f r)
def whileD (c : Env → R Bool) (f : Env → Out) : Nat → Env → Out
  | 0, _ => .bad
  | n + 1, s => out (c s) fun k => if k then andO (f s) (whileD c f n) else .nx s
def listAt (s : Env) (i : Nat) : R (List D) := listOf (getV s i)
def insertD (xs : List D) (k : Int) (d : D) : R (List D) := if decide (0 ≤ k) && decide (k ≤ 1000000) then .ok (xs.take k.toNat ++ [d] ++ xs.drop k.toNat) else .bad

def denS : S → Env → Out
  | .skip, s => .nx s
  | .seq a b, s => andO (denS a s) (denS b)
  | .frz _ b, s => denS b s
  | .set i e, s => out (den e s) fun d => .nx (s.set i (some d))
  | .setO i e, s => out (listOf (den e s)) fun xs => .nx (s.set i (some (.list xs)))
  | .setT is e, s => out (den e s) fun d => out (bindT (.tup is) d s) .nx
  | .app i e, s => out (listAt s i) fun xs => out (den e s) fun d => if xs.length < 1000000 then .nx (s.set i (some (.list (xs ++ [d])))) else .bad
  | .ins i a b, s => out (listAt s i) fun xs => out (intOf (den a s)) fun k => out (den b s) fun d =>
      if xs.length < 1000000 then out (insertD xs k d) fun ys => .nx (s.set i (some (.list ys))) else .bad
  | .ext i e, s => out (listAt s i) fun xs => out (listOf (den e s)) fun ys => if xs.length + ys.length ≤ 1000000 then .nx (s.set i (some (.list (xs ++ ys)))) else .bad
  | .put i a b, s => out (den b s) fun d => out (listAt s i) fun xs => out (intOf (den a s)) fun k => match placeD xs.length k with
      | some j => .nx (s.set i (some (.list (xs.set j d))))
      | none => .bad
  | .ifS c a b, s => out (do let x ← den c s; truthy x) fun k => if k then denS a s else denS b s
  | .forS kill t it body, s => out (listOf (den it s)) fun xs =>
      forD (fun x s => out (bindT t x s) fun s' => andO (denS body s') fun s'' => .nx (wipeE s'' kill)) xs (wipeE s kill)
  | .whileS n kill c body, s => whileD (fun s => do let x ← den c s; truthy x) (fun s => andO (denS body s) fun s'' => .nx (wipeE s'' kill)) n (wipeE s kill)
  | .ret e, s => out (den e s) .ret
  | .raise _ c, _ => .ex c
  | .exp e, s => out (den e s) fun _ => .nx s
/-- a def of n parameters and m names -/
def fnD (n m : Nat) (b : S) : Fn := fun ds => if ds.length = n then (match denS b (ds.map some ++ List.replicate (m - n) none) with
  | .nx _ => .ok .none
  | .ret d => .ok d
  | .ex c => .ex c
  | .bad => .bad) else .bad
end SF

/-! How values stand in the heap; the judgements that join the meaning with the walk. -/
namespace SF
open PySem PySem.Spec PyProof.Rows L2

/-! ### heaps without some places -/
def hid (H : Hp) (O : List Addr) : Hp := fun a => if a ∈ O then none else H a
theorem hid_some {H : Hp} {O : List Addr} {a : Addr} {o : HO} (h : hid H O a = some o) : a ∉ O ∧ H a = some o := by
  unfold hid at h
  split at h
  · cases h
  · exact ⟨by assumption, h⟩
theorem hid_at {H : Hp} {O : List Addr} {a : Addr} {o : HO} (n : a ∉ O) (h : H a = some o) : hid H O a = some o := by
  unfold hid
  rw [if_neg n]
  exact h
theorem hid_sub {H : Hp} {O : List Addr} : Same (hid H O) H := fun _ _ h => (hid_some h).2
theorem hid_mono {H H' : Hp} {O : List Addr} (s : Same H H') : Same (hid H O) (hid H' O) := fun b o h =>
  let ⟨n, e⟩ := hid_some h
  hid_at n (s b o e)
theorem hid_anti {H : Hp} {O O' : List Addr} (s : ∀ a ∈ O', a ∈ O) : Same (hid H O) (hid H O') := fun b o h =>
  let ⟨n, e⟩ := hid_some h
  hid_at (fun m => n (s b m)) e
theorem same_upd {H : Hp} {p : Addr} {o : HO} (h : H p = none) : Same H (upd H p o) := fun b x e => by
  rw [upd_ne (ne_of_none e h)]
  exact e
def OkO (H : Hp) (O : List Addr) : Prop := ∀ a ∈ O, ∃ o, H a = some o
theorem OkO.mono {H H' : Hp} {O : List Addr} (k : OkO H O) (s : Same H H') : OkO H' O := fun a m =>
  let ⟨o, e⟩ := k a m
  ⟨o, s a o e⟩
theorem OkO.new {H : Hp} {O : List Addr} (k : OkO H O) {p : Addr} (h : H p = none) : p ∉ O := fun m => by
  obtain ⟨o, e⟩ := k p m
  rw [h] at e
  cases e
theorem hid_upd {H : Hp} {O : List Addr} {p : Addr} {o : HO} (k : OkO H O) (h : H p = none) : hid (upd H p o) O p = some o := hid_at (k.new h) upd_same
/-- a hidden place is written -/
theorem hid_write {H : Hp} {O : List Addr} {p : Addr} {o : HO} (m : p ∈ O) : hid (upd H p o) O = hid H O := by
  funext b
  unfold hid
  by_cases hb : b ∈ O
  · rw [if_pos hb, if_pos hb]
  · rw [if_neg hb, if_neg hb]
    exact upd_ne fun e => hb (e ▸ m)

/-! ### what a value tells -/
/-- the lists of the written part that may be the script -/
class KS where
  at_ : Addr → List Int → Prop
variable [KS]
mutual
inductive Rp (H : Hp) : V → D → Prop
  | non : Rp H .non .none
  | bl (b : Bool) : Rp H (.bl b) (.bool b)
  | int (i : Int) : Rp H (.int i) (.int i)
  | str (x : Str) : Rp H (.str x) (.str x)
  | lst {a : Addr} {xs : List V} {ds : List D} (e : H a = some (.lst xs)) (r : RpA H xs ds) : Rp H (.ref a) (.list ds)
  | tup {a : Addr} {xs : List V} {ds : List D} (e : H a = some (.tup xs)) (r : RpA H xs ds) : Rp H (.ref a) (.tuple ds)
  | scr {a : Addr} {o : Obj} {ns : List Int} (e : H a = some (.frz o (.lst (ns.map V.int)))) : Rp H (.ref a) (.dict [(.none, .list (ns.map .int))])
  | scrK {a : Addr} {ns : List Int} (e : KS.at_ a ns) : Rp H (.ref a) (.dict [(.none, .list (ns.map .int))])
inductive RpA (H : Hp) : List V → List D → Prop
  | nil : RpA H [] []
  | cons {v : V} {vs : List V} {d : D} {ds : List D} (r : Rp H v d) (t : RpA H vs ds) : RpA H (v :: vs) (d :: ds)
end
mutual
theorem Rp.mono {H H' : Hp} (s : Same H H') : ∀ {v : V} {d : D}, Rp H v d → Rp H' v d
  | _, _, .non => .non
  | _, _, .bl b => .bl b
  | _, _, .int i => .int i
  | _, _, .str x => .str x
  | _, _, .lst e r => .lst (s _ _ e) (RpA.mono s r)
  | _, _, .tup e r => .tup (s _ _ e) (RpA.mono s r)
  | _, _, .scr e => .scr (s _ _ e)
  | _, _, .scrK e => .scrK e
theorem RpA.mono {H H' : Hp} (s : Same H H') : ∀ {vs : List V} {ds : List D}, RpA H vs ds → RpA H' vs ds
  | _, _, .nil => .nil
  | _, _, .cons r t => .cons (Rp.mono s r) (RpA.mono s t)
end
theorem RpA.length {H : Hp} : ∀ {vs : List V} {ds : List D}, RpA H vs ds → vs.length = ds.length
  | _, _, .nil => rfl
  | _, _, .cons _ t => congrArg (· + 1) t.length
theorem RpA.get {H : Hp} : ∀ {vs : List V} {ds : List D} {i : Nat} {d : D}, RpA H vs ds → ds[i]? = some d → ∃ v, vs[i]? = some v ∧ Rp H v d
  | _, _, _, _, .nil, e => by simp at e
  | _, _, 0, _, .cons r _, e => by simp at e; subst e; exact ⟨_, rfl, r⟩
  | _, _, i + 1, d, .cons _ t, e => by
    obtain ⟨v, h1, h2⟩ := RpA.get (i := i) (d := d) t (by simpa using e)
    exact ⟨v, by simpa using h1, h2⟩
theorem RpA.get' {H : Hp} : ∀ {vs : List V} {ds : List D} {i : Nat} {v : V}, RpA H vs ds → vs[i]? = some v → ∃ d, ds[i]? = some d ∧ Rp H v d
  | _, _, _, _, .nil, e => by simp at e
  | _, _, 0, _, .cons r _, e => by simp at e; subst e; exact ⟨_, rfl, r⟩
  | _, _, i + 1, d, .cons _ t, e => by
    obtain ⟨v, h1, h2⟩ := RpA.get' (i := i) (v := d) t (by simpa using e)
    exact ⟨v, by simpa using h1, h2⟩
theorem RpA.append {H : Hp} : ∀ {vs ws : List V} {ds es : List D}, RpA H vs ds → RpA H ws es → RpA H (vs ++ ws) (ds ++ es)
  | _, _, _, _, .nil, t => t
  | _, _, _, _, .cons r q, t => .cons r (RpA.append q t)
theorem RpA.one {H : Hp} {v : V} {d : D} (r : Rp H v d) : RpA H [v] [d] := .cons r .nil
theorem RpA.take {H : Hp} : ∀ {vs : List V} {ds : List D} (n : Nat), RpA H vs ds → RpA H (vs.take n) (ds.take n)
  | _, _, 0, _ => .nil
  | _, _, _ + 1, .nil => .nil
  | _, _, n + 1, .cons r t => .cons r (RpA.take n t)
theorem RpA.drop {H : Hp} : ∀ {vs : List V} {ds : List D} (n : Nat), RpA H vs ds → RpA H (vs.drop n) (ds.drop n)
  | _, _, 0, t => t
  | _, _, _ + 1, .nil => .nil
  | _, _, n + 1, .cons _ t => RpA.drop n t
theorem RpA.set {H : Hp} {v : V} {d : D} (q : Rp H v d) : ∀ {vs : List V} {ds : List D} (n : Nat), RpA H vs ds → RpA H (vs.set n v) (ds.set n d)
  | _, _, _, .nil => .nil
  | _, _, 0, .cons _ t => .cons q t
  | _, _, n + 1, .cons r t => .cons r (RpA.set q n t)
theorem RpA.reverse {H : Hp} {vs : List V} {ds : List D} (h : RpA H vs ds) : RpA H vs.reverse ds.reverse := by
  match h with
  | .nil => exact .nil
  | .cons r t => rw [List.reverse_cons, List.reverse_cons]; exact RpA.append (RpA.reverse t) (.one r)
theorem RpA.rep {H : Hp} {vs : List V} {ds : List D} (h : RpA H vs ds) : ∀ n : Nat, RpA H (List.replicate n vs).flatten (List.replicate n ds).flatten
  | 0 => .nil
  | n + 1 => by
    rw [List.replicate_succ, List.replicate_succ, List.flatten_cons, List.flatten_cons]
    exact h.append (h.rep n)
theorem RpA.ints {H : Hp} : ∀ {vs : List V} {ds : List D} {is : List Int}, RpA H vs ds → intsD ds = .ok is → vs = is.map V.int ∧ ds = is.map .int
  | _, _, _, .nil, e => by
    cases e
    exact ⟨rfl, rfl⟩
  | _, d :: ds, is, .cons r t, e => by
    cases d with
    | int i =>
      cases q : intsD ds with
      | ok js =>
        rw [show intsD (.int i :: ds) = R.ok (i :: js) by simp [intsD, q]] at e
        cases e
        obtain ⟨h1, h2⟩ := RpA.ints t q
        cases r
        exact ⟨by rw [h1]; rfl, by rw [h2]; rfl⟩
      | ex c => rw [show intsD (.int i :: ds) = R.ex c by simp [intsD, q]] at e; cases e
      | bad => rw [show intsD (.int i :: ds) = R.bad by simp [intsD, q]] at e; cases e
    | _ => cases e
theorem RpA.ofInts {H : Hp} : ∀ is : List Int, RpA H (is.map V.int) (is.map .int)
  | [] => .nil
  | _ :: is => .cons (.int _) (RpA.ofInts is)
theorem RpA.bools {H : Hp} : ∀ {vs : List V} {ds : List D} {is : List Bool}, RpA H vs ds → boolsD ds = .ok is → vs = is.map V.bl
  | _, _, _, .nil, e => by
    cases e
    rfl
  | _, d :: ds, is, .cons r t, e => by
    cases d with
    | bool i =>
      cases q : boolsD ds with
      | ok js =>
        rw [show boolsD (.bool i :: ds) = R.ok (i :: js) by simp [boolsD, q]] at e
        cases e
        have h1 := RpA.bools t q
        cases r
        rw [h1]; rfl
      | ex c => rw [show boolsD (.bool i :: ds) = R.ex c by simp [boolsD, q]] at e; cases e
      | bad => rw [show boolsD (.bool i :: ds) = R.bad by simp [boolsD, q]] at e; cases e
    | _ => cases e
/-- for == of data -/
theorem strip_dict {d : D} (h : SeqAt.shaped d = true) : ∀ kvs, d ≠ .dict kvs := fun kvs e => by
  subst e
  have := SeqAt.canLay_of_shaped h
  simp [PyData.canLay0] at this
mutual
theorem Rp.dp {K : PySem.W.Frag} {H : Hp} : ∀ {v : V} {d : D}, Rp H v d → d.canLay0 = true → Dp K H v d
  | _, _, .non, _ => .non
  | _, _, .bl b, _ => .bl b
  | _, _, .int i, _ => .int i
  | _, _, .str x, _ => .str x
  | _, _, .lst e r, c => .lst (.of e) (RpA.dp r (by simpa [PyData.canLay0] using c))
  | _, _, .tup e r, c => .tup (.of e) (RpA.dp r (by simpa [PyData.canLay0] using c))
  | _, _, .scr e, c => by simp [PyData.canLay0] at c
  | _, _, .scrK e, c => by simp [PyData.canLay0] at c
theorem RpA.dp {K : PySem.W.Frag} {H : Hp} : ∀ {vs : List V} {ds : List D}, RpA H vs ds → PyData.canLayAll0 ds = true → DpAll K H vs ds
  | _, _, .nil, _ => .nil
  | _, _, .cons r t, c => by
    simp only [PyData.canLayAll0, Bool.and_eq_true] at c
    exact .cons (Rp.dp r c.1) (RpA.dp t c.2)
end

/-! ### one level seen in the whole heap, what is below it in the part that stays -/
inductive RpB (H Hf : Hp) : V → D → Prop
  | all {v : V} {d : D} (r : Rp Hf v d) : RpB H Hf v d
  | lst {a : Addr} {xs : List V} {ds : List D} (e : H a = some (.lst xs)) (r : RpA Hf xs ds) : RpB H Hf (.ref a) (.list ds)
theorem RpB.list {H Hf : Hp} {v : V} {ds : List D} (s : Same Hf H) (h : RpB H Hf v (.list ds)) : ∃ a xs, v = .ref a ∧ H a = some (.lst xs) ∧ RpA Hf xs ds := by
  cases h with
  | all r =>
    cases r with
    | lst e r => exact ⟨_, _, rfl, s _ _ e, r⟩
  | lst e r => exact ⟨_, _, rfl, e, r⟩
theorem RpB.tuple {H Hf : Hp} {v : V} {ds : List D} (s : Same Hf H) (h : RpB H Hf v (.tuple ds)) : ∃ a xs, v = .ref a ∧ H a = some (.tup xs) ∧ RpA Hf xs ds := by
  cases h with
  | all r =>
    cases r with
    | tup e r => exact ⟨_, _, rfl, s _ _ e, r⟩
theorem RpB.rp {H Hf : Hp} {v : V} {d : D} (s : Same Hf H) (h : RpB H Hf v d) : Rp H v d := by
  cases h with
  | all r => exact r.mono s
  | lst e r => exact .lst e (r.mono s)
theorem RpB.mono {H H' Hf Hf' : Hp} {v : V} {d : D} (h : RpB H Hf v d) (s : Same H H') (sf : Same Hf Hf') : RpB H' Hf' v d := by
  cases h with
  | all r => exact .all (r.mono sf)
  | lst e r => exact .lst (s _ _ e) (r.mono sf)
theorem RpB.int {H Hf : Hp} {v : V} {i : Int} (h : RpB H Hf v (.int i)) : v = .int i := by
  cases h with
  | all r => cases r; rfl
theorem RpB.bool {H Hf : Hp} {v : V} {i : Bool} (h : RpB H Hf v (.bool i)) : v = .bl i := by
  cases h with
  | all r => cases r; rfl
theorem RpB.str {H Hf : Hp} {v : V} {i : Str} (h : RpB H Hf v (.str i)) : v = .str i := by
  cases h with
  | all r => cases r; rfl
theorem RpB.none {H Hf : Hp} {v : V} (h : RpB H Hf v .none) : v = .non := by
  cases h with
  | all r => cases r; rfl
theorem Rp.boolE {H : Hp} {v : V} {i : Bool} (h : Rp H v (.bool i)) : v = .bl i := by cases h; rfl
theorem Rp.intE {H : Hp} {v : V} {i : Int} (h : Rp H v (.int i)) : v = .int i := by cases h; rfl

/-! ### the slots -/
structure EnvR (own : List Nat) (H : Hp) (O : List Addr) (env : Env) (σ : L2.St) : Prop where
  free : ∀ (i : Nat) (d : D), i ∉ own → env.getD i none = some d → ∃ v, σ[i]? = some (some v) ∧ Rp (hid H O) v d
  held : ∀ (i : Nat) (d : D), i ∈ own → env.getD i none = some d → ∃ a vs ds, σ[i]? = some (some (.ref a)) ∧ d = .list ds ∧ H a = some (.lst vs) ∧ a ∈ O ∧ RpA (hid H O) vs ds
  ok : OkO H O
  len : env.length = σ.length
theorem EnvR.mono {own : List Nat} {H H' : Hp} {O : List Addr} {env : Env} {σ : L2.St} (h : EnvR own H O env σ) (s : Same H H') : EnvR own H' O env σ where
  free := fun i d n e => let ⟨v, h1, h2⟩ := h.free i d n e; ⟨v, h1, h2.mono (hid_mono s)⟩
  held := fun i d n e => let ⟨a, vs, ds, h1, h2, h3, h4, h5⟩ := h.held i d n e; ⟨a, vs, ds, h1, h2, s _ _ h3, h4, h5.mono (hid_mono s)⟩
  ok := h.ok.mono s
  len := h.len
theorem EnvR.bor {own : List Nat} {H : Hp} {O : List Addr} {env : Env} {σ : L2.St} (h : EnvR own H O env σ) {i : Nat} {d : D} (e : env.getD i none = some d) : ∃ v, σ[i]? = some (some v) ∧ RpB H (hid H O) v d := by
  by_cases m : i ∈ own
  · obtain ⟨a, vs, ds, h1, rfl, h3, h4, h5⟩ := h.held i d m e
    exact ⟨_, h1, .lst h3 h5⟩
  · obtain ⟨v, h1, h2⟩ := h.free i d m e
    exact ⟨v, h1, .all h2⟩
end SF

/-! The judgements. -/
namespace SF
open PySem PySem.Spec PyProof.Rows L2
variable [KS]

structure Gx where
  P : Program
  w : World
  K : PySem.W.Frag
  mg : Str → Option Value
  base : Heap
  cA : Nat → Addr
/-- the names of a def or a block: by slot, by kind, which cells are its own -/
structure MC where
  N : List Str
  nm : List (Str × NameKind)
  fn : Str → Bool
def bnames : List String := ["len", "range", "tuple", "list", "isinstance", "int", "bool", "str", "sum", "any", "all", "sorted", "set", "min", "max", "abs", "zip", "enumerate", "dict"]
structure Good (G : Gx) (M : MC) (k : Nat) (W : WX) (X : Cx) : Prop where
  prog : X.prog = G.P
  w : X.w = G.w
  K : X.K = G.K
  mg : X.mg = G.mg
  base : X.base = G.base
  N : X.N = M.N
  nd : M.N.Nodup
  kind : X.env.scope.kind = .function
  nm : X.env.scope.names = M.nm
  fn : X.fn = M.fn
  calm : X.calm = true
  room : Room k X.A
  takes : Takes X W
  blt : ∀ x ∈ bnames, X.mg (Str.ofString x) = none

structure GoodS (G : Gx) (M : MC) (k : Nat) (W : WX) (X : Cx) : Prop extends Good G M k W X where
  passes : PassesOwn (model X.prog X.w) X.A X.env X.xe

/-- what is wanted behind an answer -/
def Post {α β : Type} (W : WX) (cA : Nat → Addr) (σ : L2.St) (H : Hp) (rel : Hp → α → β → Prop) (r : R β) (Q : α → Hp → Prop) : Prop := match r with
  | .ok d => ∀ v H', Same H H' → rel H' v d → Q v H'
  | .ex c => ∀ H', Same H H' → W (.ref (cA c)) none σ H'
  | .bad => False
section
variable {α β γ δ : Type} {W : WX} {cA : Nat → Addr} {σ : L2.St} {H H' : Hp} {rel : Hp → α → β → Prop} {rel' : Hp → γ → δ → Prop}
theorem Post.mono {r : R β} {Q : α → Hp → Prop} (h : Post W cA σ H rel r Q) (s : Same H H') : Post W cA σ H' rel r Q := by
  cases r with
  | ok d => exact fun v H2 s2 q => h v H2 (s.trans s2) q
  | ex c => exact fun H2 s2 => h H2 (s.trans s2)
  | bad => exact h
theorem Post.imp {r : R β} {Q Q' : α → Hp → Prop} (h : Post W cA σ H rel r Q) (k : ∀ v H', Q v H' → Q' v H') : Post W cA σ H rel r Q' := by
  cases r with
  | ok d => exact fun v H2 s2 q => k _ _ (h v H2 s2 q)
  | ex c => exact h
  | bad => exact h
/-- one thing behind another -/
theorem Post.seq {r : R β} {f : β → R δ} {Q : γ → Hp → Prop} {Q' : α → Hp → Prop} (h : Post W cA σ H rel' (r >>= f) Q)
    (k : ∀ d v H', r = .ok d → Same H H' → rel H' v d → Post W cA σ H' rel' (f d) Q → Q' v H') : Post W cA σ H rel r Q' := by
  cases r with
  | ok d => exact fun v H2 s2 q => k d v H2 rfl s2 q (Post.mono h s2)
  | ex c => exact h
  | bad => exact h
theorem Post.now {d : β} {Q : α → Hp → Prop} (h : Post W cA σ H rel (.ok d) Q) {v : α} (r : rel H v d) : Q v H := h v H (Same.refl H) r
end

abbrev relD (O : List Addr) : Hp → V → D → Prop := fun H v d => Rp (hid H O) v d
abbrev relB (O : List Addr) : Hp → V → D → Prop := fun H v d => RpB H (hid H O) v d
abbrev relA (O : List Addr) : Hp → List V → List D → Prop := fun H v d => RpA (hid H O) v d
abbrev relT : Hp → Bool → Bool → Prop := fun _ a b => a = b

/-- it goes over ds as long as what it walks stands -/
def IterOk (Hs H : Hp) (O : List Addr) (J : It) (ds : List D) : Prop := ∀ (H' : Hp) (O' : List Addr), Same Hs H' → Same (hid H O) (hid H' O') → OkO H' O' →
  (∀ (i : Nat) (d : D), ds[i]? = some d → J.go i H' ∧ ∀ x H'', J.yld i H' x H'' → Same H' H'' ∧ Rp (hid H'' O') x d) ∧ ∀ i : Nat, ds.length ≤ i → J.stop i H'
def PostI (W : WX) (cA : Nat → Addr) (σ : L2.St) (H : Hp) (O : List Addr) (m : Bool) (r : R (List D)) (Q : It → Hp → Prop) : Prop := match r with
  | .ok ds => ∀ J H', Same H H' → ds.length ≤ sizeLine → IterOk (if m = true then hid H' O else H') H' O J ds → Q J H'
  | .ex c => ∀ H', Same H H' → W (.ref (cA c)) none σ H'
  | .bad => False

variable (G : Gx) (M : MC) (k : Nat) (own : List Nat)
def JE (e : Expr) (f : Env → R D) : Prop := ∀ X W, Good G M k W X → ∃ t, PE X e t ∧ ∀ σ H O env Q, EnvR own H O env σ → Post W G.cA σ H (relD O) (f env) Q → t σ H Q
def JB (e : Expr) (f : Env → R D) : Prop := ∀ X W, Good G M k W X → ∃ t, PE X e t ∧ ∀ σ H O env Q, EnvR own H O env σ → Post W G.cA σ H (relB O) (f env) Q → t σ H Q
def JT (e : Expr) (f : Env → R Bool) : Prop := ∀ X W, Good G M k W X → ∃ t, PT X e t ∧ ∀ σ H O env Q, EnvR own H O env σ → Post W G.cA σ H relT (f env) Q → t σ H Q
def JW (e : Expr) (f : Env → R Bool) : Prop := ∀ X W, Good G M k W X → ∃ t, PW X e t ∧ ∀ σ H O env Q, EnvR own H O env σ → Post W G.cA σ H relT (f env) Q → t σ H Q
def JA (es : List Expr) (f : Env → R (List D)) : Prop := ∀ X W, Good G M k W X → ∃ t, PA X es t ∧ ∀ σ H O env Q, EnvR own H O env σ → Post W G.cA σ H (relA O) (f env) Q → t σ H Q
def JI (m : Bool) (tg it : Expr) (f : Env → R (List D)) : Prop := ∀ X W, Good G M k W X → ∃ t, PI X tg it t ∧ ∀ σ H O env Q, EnvR own H O env σ → PostI W G.cA σ H O m (f env) Q → t σ H Q
variable {G : Gx} {M : MC} {k : Nat} {own : List Nat}
theorem Post.toB {W : WX} {cA : Nat → Addr} {σ : L2.St} {H : Hp} {O : List Addr} {r : R D} {Q : V → Hp → Prop} (h : Post W cA σ H (relB O) r Q) : Post W cA σ H (relD O) r Q := by
  cases r with
  | ok d => exact fun v H2 s2 q => h v H2 s2 (.all q)
  | ex c => exact h
  | bad => exact h
theorem JE.jb {e : Expr} {f : Env → R D} (h : JE G M k own e f) : JB G M k own e f := fun X W g =>
  let ⟨t, p, q⟩ := h X W g
  ⟨t, p, fun σ H O env Q E z => q σ H O env Q E z.toB⟩
theorem JW.jt {e : Expr} {f : Env → R Bool} (h : JW G M k own e f) : JT G M k own e f := fun X W g =>
  let ⟨t, p, q⟩ := h X W g
  ⟨t, p.pt, q⟩

/-! ### names -/
def gl (M : MC) (s : String) (x : Str) : Bool := decide (x = Str.ofString s) && decide (M.nm.lookup x = some .globalImplicit)
def visB (M : MC) (x : Str) : Bool := match M.nm.lookup x with
  | some .local => true
  | some .cell => true
  | some .free => true
  | _ => false
def nmB (M : MC) (i : Nat) (x : Str) : Bool := decide (M.N[i]? = some x) && visB M x && !(x == ("__debug__" : Str)) && !(x == ("__classdict__" : Str))
theorem gl_of {X : Cx} {W : WX} (g : Good G M k W X) {s : String} {x : Str} (h : gl M s x = true) : x = Str.ofString s ∧ Gl X x := by
  unfold gl at h
  rw [Bool.and_eq_true, decide_eq_true_eq, decide_eq_true_eq] at h
  refine ⟨h.1, ?_⟩
  show X.env.scope.names.lookup x = _
  rw [g.nm]
  exact h.2
theorem vis_of {X : Cx} {W : WX} (g : Good G M k W X) {x : Str} (h : visB M x = true) : Vis X.env.scope x := by
  unfold visB at h
  show X.env.scope.names.lookup x = _ ∨ X.env.scope.names.lookup x = _ ∨ X.env.scope.names.lookup x = _
  rw [g.nm]
  split at h <;> simp_all
theorem jb_var {i : Nat} {x : Str} {pos : Pos} (h : nmB M i x = true) : JB G M k own (.Name x pos) (fun s => getV s i) := fun X W g => by
  unfold nmB at h
  simp only [Bool.and_eq_true, Bool.not_eq_true', decide_eq_true_eq] at h
  obtain ⟨⟨⟨h1, h2⟩, h3⟩, h4⟩ := h
  refine ⟨_, pe_var (i := i) (by rw [g.N]; exact h1) (vis_of g h2) h3 h4, fun σ H O env Q E z => ?_⟩
  have z : Post W G.cA σ H (relB O) (getV env i) Q := z
  unfold getV at z
  cases e : env.getD i none with
  | none => rw [e] at z; exact z.elim
  | some d =>
    rw [e] at z
    obtain ⟨v, h1, h2⟩ := E.bor e
    exact ⟨v, h1, z v H (Same.refl H) h2⟩
theorem je_var {i : Nat} {x : Str} {pos : Pos} (h : nmB M i x = true) (hn : i ∉ own) : JE G M k own (.Name x pos) (fun s => getV s i) := fun X W g => by
  unfold nmB at h
  simp only [Bool.and_eq_true, Bool.not_eq_true', decide_eq_true_eq] at h
  obtain ⟨⟨⟨h1, h2⟩, h3⟩, h4⟩ := h
  refine ⟨_, pe_var (i := i) (by rw [g.N]; exact h1) (vis_of g h2) h3 h4, fun σ H O env Q E z => ?_⟩
  have z : Post W G.cA σ H (relD O) (getV env i) Q := z
  unfold getV at z
  cases e : env.getD i none with
  | none => rw [e] at z; exact z.elim
  | some d =>
    rw [e] at z
    obtain ⟨v, h1, h2⟩ := E.free i d hn e
    exact ⟨v, h1, z v H (Same.refl H) h2⟩
theorem je_cst {c : Const} {j : Nat} {pos : Pos} : JE G M k own (.Constant c j pos) (fun _ => cstD c) := fun X W g => by
  cases c with
  | none => exact ⟨_, pe_non, fun σ H O env Q E z => z _ H (Same.refl H) .non⟩
  | bool b => exact ⟨_, pe_bl, fun σ H O env Q E z => z _ H (Same.refl H) (.bl b)⟩
  | int i => exact ⟨_, pe_int, fun σ H O env Q E z => z _ H (Same.refl H) (.int i)⟩
  | str x => exact ⟨_, pe_str, fun σ H O env Q E z => z _ H (Same.refl H) (.str x)⟩
  | float b => exact ⟨fun _ _ _ => False, ⟨fun _ _ _ _ _ _ h => h.elim⟩, fun σ H O env Q E z => z.elim⟩
  | complex a b => exact ⟨fun _ _ _ => False, ⟨fun _ _ _ _ _ _ h => h.elim⟩, fun σ H O env Q E z => z.elim⟩
  | bytes b => exact ⟨fun _ _ _ => False, ⟨fun _ _ _ _ _ _ h => h.elim⟩, fun σ H O env Q E z => z.elim⟩
  | ellipsis => exact ⟨fun _ _ _ => False, ⟨fun _ _ _ _ _ _ h => h.elim⟩, fun σ H O env Q E z => z.elim⟩
/-- what the module has at a constant's name -/
def ConstAt (G : Gx) (s : String) (c : Const) : Prop := ∃ u v, G.mg (Str.ofString s) = some u ∧ RelV v u ∧ ∀ d, cstD c = .ok d → ∀ H, Rp H v d
theorem je_glob {s : String} {c : Const} {x : Str} {pos : Pos} (h : gl M s x = true) (hd : (x == ("__debug__" : Str)) = false) (hc : ConstAt G s c) : JE G M k own (.Name x pos) (fun _ => cstD c) := fun X W g => by
  obtain ⟨rfl, hg⟩ := gl_of g h
  obtain ⟨u, v, h1, h2, h3⟩ := hc
  refine ⟨_, pe_glob hg (by rw [g.mg]; exact h1) h2 hd, fun σ H O env Q E z => ?_⟩
  show Q v H
  cases e : cstD c with
  | ok d => rw [e] at z; exact z _ H (Same.refl H) (h3 d e _)
  | ex c' => cases c <;> cases e
  | bad => rw [e] at z; exact z.elim

/-! ### arguments -/
def notStar : Expr → Bool
  | .Starred _ _ => false
  | _ => true
theorem star_cons {e : Expr} (h : notStar e = true) (es : List Expr) (env : PySem.Env) : starEach (e :: es) env = (false, eval e env) :: starEach es env := by
  cases e <;> first | rfl | cases h
def plainAll : List Expr → Bool := fun es => es.all notStar
theorem backTo_plain (pos : Pos) (env : PySem.Env) : ∀ {es : List Expr}, es.all notStar = true → (backTo pos (starEach es env)).any (·.1) = false
  | [], _ => rfl
  | e :: es, h => by
    rw [List.all_cons, Bool.and_eq_true] at h
    rw [star_cons h.1]
    show (false || (backTo pos (starEach es env)).any (·.1)) = false
    rw [backTo_plain pos env h.2]
    rfl
theorem ja_nil : JA G M k own [] (fun _ => .ok []) := fun X W g => ⟨_, pa_nil, fun σ H O env Q E z => z _ H (Same.refl H) .nil⟩
theorem ja_cons {e : Expr} {es : List Expr} {f : Env → R D} {g : Env → R (List D)} (he : JE G M k own e f) (hs : JA G M k own es g) (h : notStar e = true) :
    JA G M k own (e :: es) (fun s => do let x ← f s; let ds ← g s; .ok (x :: ds)) := fun X W gd => by
  obtain ⟨t, p, q⟩ := he X W gd
  obtain ⟨t2, p2, q2⟩ := hs X W gd
  refine ⟨_, pa_cons p p2 (star_cons h _ _), fun σ H O env Q E z => ?_⟩
  refine q σ H O env _ E (Post.seq z fun d v H1 _ s1 r1 z1 => ?_)
  refine q2 σ H1 O env _ (E.mono s1) (Post.seq z1 fun ds vs H2 _ s2 r2 z2 => ?_)
  exact z2.now (.cons (r1.mono (hid_mono s2)) r2)

/-! ### two operands, one operand -/
theorem jb_two {e a b : Expr} {f g : Env → R D} {op : D → D → R D} {r : Cx → R2} (ha : JB G M k own a f) (hb : JB G M k own b g)
    (hp : ∀ X W, Good G M k W X → ∀ ta tb, PE X a ta → PE X b tb → PE X e (tOp (r X) ta tb))
    (hr : ∀ X W, Good G M k W X → ∀ σ H O x y da db Q, OkO H O → RpB H (hid H O) x da → RpB H (hid H O) y db → Post W G.cA σ H (relD O) (op da db) Q → r X x y H Q) :
    JE G M k own e (fun s => do let x ← f s; let y ← g s; op x y) := fun X W gd => by
  obtain ⟨t, p, q⟩ := ha X W gd
  obtain ⟨t2, p2, q2⟩ := hb X W gd
  refine ⟨_, hp X W gd _ _ p p2, fun σ H O env Q E z => ?_⟩
  refine q σ H O env _ E (Post.seq z fun d v H1 _ s1 r1 z1 => ?_)
  have E1 := E.mono s1
  refine q2 σ H1 O env _ E1 (Post.seq z1 fun d2 v2 H2 _ s2 r2 z2 => ?_)
  exact hr X W gd σ H2 O v v2 d d2 Q (E1.mono s2).ok (r1.mono s2 (hid_mono s2)) r2 z2
theorem jb_one {e a : Expr} {f : Env → R D} {op : D → R D} {r : Cx → V → Hp → VK → Prop} (ha : JB G M k own a f)
    (hp : ∀ X W, Good G M k W X → ∀ ta, PE X a ta → PE X e (tUn (r X) ta))
    (hr : ∀ X W, Good G M k W X → ∀ σ H O x da Q, OkO H O → RpB H (hid H O) x da → Post W G.cA σ H (relD O) (op da) Q → r X x H Q) :
    JE G M k own e (fun s => do let x ← f s; op x) := fun X W gd => by
  obtain ⟨t, p, q⟩ := ha X W gd
  refine ⟨_, hp X W gd _ p, fun σ H O env Q E z => ?_⟩
  refine q σ H O env _ E (Post.seq z fun d v H1 _ s1 r1 z1 => ?_)
  exact hr X W gd σ H1 O v d Q (E.mono s1).ok r1 z1
end SF

/-! Rules for single operations that the layer lacks. -/
namespace SF
open PySem PySem.Spec PyProof.Rows L2
section
variable {X : Cx}
/-! ### in, index of tuples -/
def rInDT (K : PySem.W.Frag) (neg : Bool) : R2 := fun x y H Q => ∃ d ds, Dp K H x d ∧ Dp K H y (.tuple ds) ∧ SeqAt.shaped d = true ∧ SeqAt.shaped (.tuple ds) = true ∧ Q (.bl (if neg = true then !(anyEq ds d) else anyEq ds d)) H
theorem op_inDT (hu : X.A.units + 65 < cLine) : OpR X (compareOp .In) (rInDT X.K false) := by
  rintro pins s σ H x y v u Q I rx ry ⟨d, ds, hd, he, sd, se, q⟩
  obtain ⟨as, ra⟩ := Dp.reads I d x v hd rx
  obtain ⟨bs, rb⟩ := Dp.reads I (.tuple ds) y u he ry
  exact SeqAt.in_tuple_reads rb ra (SeqAt.canLay_of_shaped se) (SeqAt.canLay_of_shaped sd) (room_in_shaped sd hu) ⟨.bl _, H, I, rfl, q⟩
theorem op_notInDT (hu : X.A.units + 65 < cLine) : OpR X (compareOp .NotIn) (rInDT X.K true) := by
  rintro pins s σ H x y v u Q I rx ry ⟨d, ds, hd, he, sd, se, q⟩
  obtain ⟨as, ra⟩ := Dp.reads I d x v hd rx
  obtain ⟨bs, rb⟩ := Dp.reads I (.tuple ds) y u he ry
  exact SeqAt.notIn_tuple_reads rb ra (SeqAt.canLay_of_shaped se) (SeqAt.canLay_of_shaped sd) (room_in_shaped sd hu) ⟨.bl _, H, I, rfl, q⟩
def rIndexT (K : PySem.W.Frag) : V → List V → Hp → VK → Prop := fun x xs H Q => ∃ (a : Addr) (y : V) (d : PyData) (ds : List PyData) (j : Nat) (z : PyData), x = V.ref a ∧ xs = [y] ∧ Dp K H (V.ref a) (.tuple ds) ∧ Dp K H y d ∧
  SeqAt.shaped (.tuple ds) = true ∧ SeqAt.shaped d = true ∧ ds[j]? = some z ∧ PyData.eqv z d = true ∧ (∀ (m : Nat) (z' : PyData), m < j → ds[m]? = some z' → PyData.eqv z' d = false) ∧ Q (.int (j : Nat)) H
theorem mt_indexT (hu : X.A.units + 65 < cLine) : MtR X "tuple.index" (rIndexT X.K) := by
  rintro pins s σ H x xs v us Q I rx rxs ⟨a, y, d, ds, j, z, rfl, rfl, hl, hy, sl, sd, hz, hzj, hno, q⟩
  cases rx
  obtain ⟨uy, rfl, ry⟩ := vals1 rxs
  obtain ⟨bs, rb⟩ := Dp.reads I d y uy hy ry
  have hxs : PyData.canLayAll0 ds = true := SeqAt.canLay_of_shaped sl
  have hroom : X.A.units + 1 + min (PyData.depthAll ds) d.depth < cLine := room_in_shaped sd hu
  cases hl with
  | tup hs ha =>
    obtain ⟨its, rv, ⟨ob, ho, hc, n, hdt⟩, hlen⟩ := I.tuple hs
    obtain ⟨cls, dd, data, sls⟩ := ob
    have hc' : cls = .type "tuple" := hc
    have hd' : data = .seq its.toArray n := hdt
    subst hc' hd'
    obtain ⟨as, ras⟩ := Dp.readsAll I ds _ its ha rv
    have hmap := SeqAt.readsAll_map ds its as hxs ras
    have hll : its.length = ds.length := by rw [← hmap, List.length_map]
    have hjd := (List.getElem?_eq_some_iff.mp hz).1
    have hj : j < its.toArray.size := by
      rw [List.size_toArray, hll]
      exact hjd
    have look : ∀ (m : Nat) (hm : m < its.toArray.size) (z' : PyData), ds[m]? = some z' → SeqAt.readOf s.heap its.toArray[m] = z' := fun m hm z' e => by
      have hm' : m < its.length := by simpa using hm
      rw [← hmap, List.getElem?_map, List.getElem?_eq_getElem hm'] at e
      simpa using e
    refine call_meets PySem.F.slot_tuple_index ⟨_, ho, rfl⟩ PySem.F.entry_tuple_index (PySem.F.args_tuple_index_2 _ _)
      (_root_.TI.tuple_indexAt a its.toArray n dd sls uy (fun u => PyData.eqv (SeqAt.readOf s.heap u) d) j hj ?_ ?_)
      ⟨ho, SeqAt.items_eqAt (vs := its.toArray) (by simpa using ras) rb hxs (SeqAt.canLay_of_shaped sd) hroom, ⟨.int (j : Nat), H, I.tok _, ⟨_, rfl⟩, q⟩⟩
    · show PyData.eqv (SeqAt.readOf s.heap its.toArray[j]) d = true
      rw [look j hj z hz]
      exact hzj
    · intro m hm hmj
      have e : ds[m]? = some ds[m] := List.getElem?_eq_getElem (Nat.lt_trans hmj hjd)
      show PyData.eqv (SeqAt.readOf s.heap its.toArray[m]) d = false
      rw [look m hm _ e]
      exact hno m _ hmj e

/-! ### sum of a tuple; min of three -/
theorem cr_sumT (hc : X.calm = true) : CallR X (.builtin "sum") (fun vs H Q => ∃ (a : Addr) (ns : List Int), vs = [V.ref a] ∧ SqT X.K H a (ns.map V.int) ∧ Q (.int ns.sum) H) := by
  rintro pins s σ H vs us Q I r ⟨a, ns, rfl, hs, q⟩
  obtain ⟨its, rv, hl, _⟩ := I.tuple hs
  rw [Vals.ref1 r]
  have hi := rv.ints
  obtain ⟨xs, e⟩ := hi.allInts.items
  have hn : numsOf (intItems xs).toList = ns := by rw [← e]; exact hi.numsOf
  rw [nums_intItems] at hn
  rw [e] at hl
  refine PySem.W.ktm_sumG (I.ok.hd hc) hl fun h' tk t' hk => ?_
  rw [preSum_eq, List.take_of_length_le (by simp), hn]
  exact ⟨.int _, H, I.kept hk, ⟨_, rfl⟩, q⟩
theorem call_min3 (hc : X.calm = true) : CallR X (.builtin "min") (fun xs H Q => ∃ i j k, xs = [.int i, .int j, .int k] ∧ Q (.int (if k < (if j < i then j else i) then k else if j < i then j else i)) H) := by
  rintro pins s σ H xs us Q I r ⟨i, j, k, rfl, q⟩
  cases r with
  | cons r1 r2 =>
    obtain ⟨u2, u3, rfl, ⟨t2, rfl⟩, ⟨t3, rfl⟩⟩ := vals2 r2
    obtain ⟨t1, rfl⟩ := r1
    refine min_three_ints (I.ok.hd hc) fun h' tk kk => ⟨_, H, I.kept kk, ?_, q⟩
    by_cases h1 : j < i
    · rw [if_pos h1, if_pos h1]
      by_cases h2 : k < j
      · rw [if_pos h2, if_pos h2]; exact ⟨_, rfl⟩
      · rw [if_neg h2, if_neg h2]; exact ⟨_, rfl⟩
    · rw [if_neg h1, if_neg h1]
      by_cases h2 : k < i
      · rw [if_pos h2, if_pos h2]; exact ⟨_, rfl⟩
      · rw [if_neg h2, if_neg h2]; exact ⟨_, rfl⟩

/-! ### order of tuples of ints -/
theorem lexAt_le : ∀ (ns ms : List Int) (op : Int → Int → Bool) (z : Nat → Nat → Bool), (∀ a b, a ≠ b → op a b = decide (a < b)) → (∀ a b : Nat, z a b = decide (a ≤ b)) → ∀ (k i : Nat), i + k = min ns.length ms.length →
    Ob.lexAt (fun j => decide (ns.getD j 0 = ms.getD j 0)) (fun j => op (ns.getD j 0) (ms.getD j 0)) (z ns.length ms.length) i k = lexLe (ns.drop i) (ms.drop i) := by
  intro ns ms op z hop hz k
  induction k with
  | zero =>
    intro i hi
    rw [Ob.lexAt_zero, hz]
    by_cases h : ns.length ≤ ms.length
    · have e : ns.drop i = [] := List.drop_eq_nil_of_le (by omega)
      rw [e, decide_eq_true h]
      rfl
    · have e : ms.drop i = [] := List.drop_eq_nil_of_le (by omega)
      rw [e, decide_eq_false h]
      cases q : ns.drop i with
      | nil =>
        have := congrArg List.length q
        rw [List.length_drop] at this
        simp at this
        omega
      | cons a r => rfl
  | succ k ih =>
    intro i hi
    have h1 : i < ns.length := by omega
    have h2 : i < ms.length := by omega
    rw [Ob.lexAt_succ, List.drop_eq_getElem_cons h1, List.drop_eq_getElem_cons h2]
    have e1 : ns.getD i 0 = ns[i] := by simp [h1]
    have e2 : ms.getD i 0 = ms[i] := by simp [h2]
    simp only [e1, e2, lexLe]
    by_cases h : ns[i] = ms[i]
    · rw [if_pos (by rw [h]; simp), if_pos h]
      exact ih (i + 1) (by omega)
    · rw [if_neg (by simpa using h), if_neg h]
      exact hop _ _ h
end
open AutoSeq1 (wpAny_loadPart')
theorem tuple_mul0 (l : Addr) (items : Array Value) (n : Nat) (dd : Option Addr) (sl : Array (Option Value)) (x : Int) (u : Tok) (c0 : (decide (x < -(2 ^ 63)) || decide (x ≥ 2 ^ 63)) = false)
    (c1 : (items.isEmpty || x == 1) = false) (c2 : (decide (x ≤ 0) || items.isEmpty) = true) :
    Meets (Builtin.«tuple.__mul__» ⟨[.ref l, .int x u], []⟩) (fun _ R s => s.heap.get? l = some { cls := .type "tuple", dict := dd, data := .seq items n, slots := sl } ∧
      R (.ok (.ret (Value.ref s.heap.objs.size))) { s with heap := s.heap.push { cls := Value.type "tuple", data := Data.seq #[] }, toks := s.toks }) :=
  .of_wp fun prog w A R s h => by
    obtain ⟨hp, g, d, tk, os⟩ := s
    obtain ⟨hl, h⟩ := h
    have f1 := AutoSeq1.idx_int
    wp_walk using wpAny_loadPart' hl
    rw [if_neg (by rw [c0]; exact Bool.false_ne_true)]
    wp_walk using wpAny_loadPart' hl
    exact ⟨_, rfl, h⟩
theorem tuple_mul1 (l : Addr) (items : Array Value) (n : Nat) (dd : Option Addr) (sl : Array (Option Value)) (x : Int) (u : Tok) (c0 : (decide (x < -(2 ^ 63)) || decide (x ≥ 2 ^ 63)) = false)
    (c1 : (items.isEmpty || x == 1) = true) :
    Meets (Builtin.«tuple.__mul__» ⟨[.ref l, .int x u], []⟩) (fun _ R s => s.heap.get? l = some { cls := .type "tuple", dict := dd, data := .seq items n, slots := sl } ∧ R (.ok (.ret (Value.ref l))) s) :=
  .of_wp fun prog w A R s h => by
    obtain ⟨hp, g, d, tk, os⟩ := s
    obtain ⟨hl, h⟩ := h
    have f1 := AutoSeq1.idx_int
    wp_walk using wpAny_loadPart' hl
    rw [if_neg (by rw [c0]; exact Bool.false_ne_true)]
    wp_walk using wpAny_loadPart' hl
    exact ⟨_, rfl, h⟩
section
variable {X : Cx}
def rRepA (K : PySem.W.Frag) : R2 := fun x y H Q => ∃ (l : Addr) (k : Int) (xs : List V), x = .ref l ∧ y = .int k ∧ SqT K H l xs ∧ k ≤ 1000 ∧ -1000000 < k ∧ xs.length ≤ 1000 ∧
  ((xs = [] ∨ k = 1) → Q (.ref l) H) ∧ (xs ≠ [] → k ≤ 0 → ∀ p, H p = none → Q (.ref p) (upd H p (.tup []))) ∧ (xs ≠ [] → 2 ≤ k → ∀ p, H p = none → Q (.ref p) (upd H p (.tup (List.replicate k.toNat xs).flatten)))
theorem op_repA : OpR X (binaryOp .Mult) (rRepA X.K) := by
  rintro pins s σ H x y v u Q I rx ry ⟨l, k, xs, rfl, rfl, hT, h1, h0, hz, q1, q2, q3⟩
  by_cases hx : xs = [] ∨ k = 1
  · cases rx
    obtain ⟨t, rfl⟩ := ry
    obtain ⟨its, r, ⟨ob, ho, hc, n, hd⟩, hs⟩ := I.tuple hT
    obtain ⟨cls, dd, data, sl⟩ := ob
    have hc' : cls = .type "tuple" := hc
    have hd' : data = .seq its.toArray n := hd
    subst hc' hd'
    have hle : its.length = xs.length := r.length.symm
    have c1 : (its.toArray.isEmpty || k == 1) = true := by
      rcases hx with e | e
      · rw [e] at hle
        rw [List.eq_nil_of_length_eq_zero hle]
        rfl
      · rw [e]; simp
    have c0 : (decide (k < -(2 ^ 63)) || decide (k ≥ 2 ^ 63)) = false := by
      rw [decide_eq_false (by omega), decide_eq_false (by omega)] <;> rfl
    refine wpAny_binaryOp_repeat_ref (T := "tuple") (U := "int") (by decide) ⟨_, ho, rfl⟩ (fun s' => typeIs_int s' k t) noFill_tuple_mul F.fills_int_mul F.slot_int_rmul repeat_tuple F.slot_int_index.lookup
      (call_meets F.slot_int_rmul (typeIs_int s k t) F.entry_int_rmul (F.args_int_rmul_2 _ _) (int_rmul_tuple k t l its.toArray n dd sl)
        ⟨ho, rfl, ⟨_, ho, rfl⟩, call_meets F.slot_tuple_mul ⟨_, ho, rfl⟩ F.entry_tuple_mul (F.args_tuple_mul_2 _ _) (tuple_mul1 l its.toArray n dd sl k t c0 c1) ⟨ho, ?_⟩⟩)
    exact ⟨.ref l, H, I, rfl, q1 hx⟩
  · have hx1 : xs ≠ [] := fun e => hx (.inl e)
    have hk1 : k ≠ 1 := fun e => hx (.inr e)
    by_cases h2 : 2 ≤ k
    · exact op_repT pins s σ H _ _ v u Q I rx ry ⟨l, k, xs, rfl, rfl, hT, hx1, h2, h1, hz, q3 hx1 h2⟩
    · have hk : k ≤ 0 := by omega
      cases rx
      obtain ⟨t, rfl⟩ := ry
      obtain ⟨its, r, ⟨ob, ho, hc, n, hd⟩, hs⟩ := I.tuple hT
      obtain ⟨cls, dd, data, sl⟩ := ob
      have hc' : cls = .type "tuple" := hc
      have hd' : data = .seq its.toArray n := hd
      subst hc' hd'
      have hle : its.length = xs.length := r.length.symm
      have hi : its.toArray.isEmpty = false := by
        cases its with
        | nil => exact absurd (List.eq_nil_of_length_eq_zero hle.symm) hx1
        | cons a b => rfl
      have c0 : (decide (k < -(2 ^ 63)) || decide (k ≥ 2 ^ 63)) = false := by
        rw [decide_eq_false (by omega), decide_eq_false (by omega)] <;> rfl
      have c1 : (its.toArray.isEmpty || k == 1) = false := by
        rw [hi, Bool.false_or]
        exact beq_eq_false_iff_ne.mpr hk1
      have c2 : (decide (k ≤ 0) || its.toArray.isEmpty) = true := by rw [decide_eq_true hk] <;> rfl
      refine wpAny_binaryOp_repeat_ref (T := "tuple") (U := "int") (by decide) ⟨_, ho, rfl⟩ (fun s' => typeIs_int s' k t) noFill_tuple_mul F.fills_int_mul F.slot_int_rmul repeat_tuple F.slot_int_index.lookup
        (call_meets F.slot_int_rmul (typeIs_int s k t) F.entry_int_rmul (F.args_int_rmul_2 _ _) (int_rmul_tuple k t l its.toArray n dd sl)
          ⟨ho, rfl, ⟨_, ho, rfl⟩, call_meets F.slot_tuple_mul ⟨_, ho, rfl⟩ F.entry_tuple_mul (F.args_tuple_mul_2 _ _) (tuple_mul0 l its.toArray n dd sl k t c0 c1 c2) ⟨ho, ?_⟩⟩)
      refine ⟨.ref s.heap.objs.size, _, I.laid (t' := s.toks) (o := .tup []) (fun b ob q => Heap.get?_push_of_some _ q) (Nat.le_refl _) ?_, rfl, q2 hx1 hk _ (I.hok.fresh (Nat.le_refl _))⟩
      exact ⟨Nat.zero_le _, [], .nil, IsTup.new _ _⟩
end
/-! ### t[::-1] of a tuple -/
theorem filterMap_of {α β : Type} {f : α → Option β} {g : α → β} : ∀ {l : List α}, (∀ x ∈ l, f x = some (g x)) → l.filterMap f = l.map g
  | [], _ => rfl
  | x :: r, h => by
    rw [List.filterMap_cons, h x List.mem_cons_self, List.map_cons, filterMap_of fun y hy => h y (List.mem_cons_of_mem _ hy)]
theorem rev_pick (xs : Array Value) : ((List.range xs.size).filterMap fun (k : Nat) => xs[(((xs.size : Int) - 1) + (k : Int) * (-1)).toNat]?).toArray = xs.toList.reverse.toArray := by
  have e := PySem.W.krv_pick xs
  rw [← e]
  have h1 : ((List.range xs.size).filterMap fun (k : Nat) => xs[(((xs.size : Int) - 1) + (k : Int) * (-1)).toNat]?) = xs.toList.reverse := by
    apply List.ext_getElem?
    intro i
    have key : ((List.range xs.size).filterMap fun (k : Nat) => xs[(((xs.size : Int) - 1) + (k : Int) * (-1)).toNat]?) = (List.range xs.size).map fun k => xs.getD (xs.size - 1 - k) .none := by
      refine filterMap_of fun k hk => ?_
      have hk' : k < xs.size := List.mem_range.mp hk
      have e1 : (((xs.size : Int) - 1) + (k : Int) * (-1)).toNat = xs.size - 1 - k := by omega
      have h2 : xs.size - 1 - k < xs.size := by omega
      rw [e1]
      simp [h2]
    rw [key]
    by_cases hi : i < xs.size
    · rw [List.getElem?_map, List.getElem?_range hi, List.getElem?_reverse (by simpa using hi)]
      have h2 : xs.size - 1 - i < xs.size := by omega
      simp [h2]
    · rw [List.getElem?_eq_none (by simpa using hi), List.getElem?_eq_none (by simpa using hi)]
  rw [h1, e]
theorem adjust_rev (n : Nat) : Builtin.Slice.sliceAdjust none none (-1) (n : Int) = ((n : Int) - 1, -1) := by
  unfold Builtin.Slice.sliceAdjust
  simp
theorem places_rev (n : Nat) : Builtin.Slice.slicePlaces ((n : Int) - 1) (-1) (-1) = n := by
  unfold Builtin.Slice.slicePlaces
  have h1 : ¬ ((-1 : Int) > 0) := by omega
  simp only [h1, if_false]
  split
  · have e : ((n : Int) - 1 - -1 - 1) / - -1 = (n : Int) - 1 := by
      rw [Int.neg_neg, Int.ediv_one]
      omega
    rw [e]
    omega
  · omega
section
variable {prog : Program} {w : World} {A : Around} {E : Value → Shared → Prop} {s : Shared}
theorem slicePart_m1 {v : Value} {Q : Option Int → Shared → Prop} (p : IsPart v (some (-1))) (h : Q (some (-1)) s) : wpAny (model prog w) A (Builtin.Slice.slicePartIndex v) Q E s := HT.slicePart_ p h
theorem getItem_tuple_rev {t sl : Addr} {items : Array Value} {vs : Value} {Q : Value → Shared → Prop} (ht : IsTup s.heap t items) (hs : s.heap.IsSliceOf sl .none .none vs) (ps : IsPart vs (some (-1)))
    (h : Q (.ref s.heap.objs.size) { s with heap := s.heap.push { cls := .type "tuple", data := .seq items.toList.reverse.toArray } }) (hsz : items.size ≤ sizeLine) : wpAny (model prog w) A (getItem (.ref t) (.ref sl)) Q E s := by
  obtain ⟨os, hos, hcs, hds⟩ := id hs
  have hTs : s.TypeIs (.ref sl) "slice" := ⟨os, hos, hcs⟩
  unfold getItem
  try with_reducible refine wpAny_holding ?_
  first | refine wpAny_bind (wpAny_pure ?_) | skip
  refine wpAny_bind (wpAny_sequenceKey ht.typeIs (by decide) ?_)
  refine wpAny_bind (wpAny_callSpecial?_slot (name := Str.ofString "__getitem__") ht.typeIs PyProof.Rows.slot_tuple_getitem
    (wpAny_call_entry PyProof.Rows.slot_tuple_getitem ht.typeIs entry_tuple_getitem ?_ (args_tuple_getitem _ _)))
  show wpAny _ _ (Builtin.Tuple.tupleItemsOf (.ref t) >>= _) _ _ s
  refine wpAny_bind (tupleItemsOf_ ht ?_)
  refine wpAny_bind (wpAny_typeOf hTs ?_)
  rw [if_pos (by decide)]
  have app : ∀ {Q' : Int × Int × Nat → Shared → Prop} {E' : Value → Shared → Prop} {A' : Around}, Q' ((items.size : Int) - 1, -1, items.size) s → wpAny (model prog w) A' (Builtin.Slice.sliceApplied (.ref sl) (pure (items.size : Int))) Q' E' s := fun {Q' E' A'} q => by
    unfold Builtin.Slice.sliceApplied Builtin.Slice.sliceFields
    refine wpAny_bind (wpAny_bind (wpAny_field hos hds (x := .none) rfl (wpAny_bind (wpAny_field hos hds (x := .none) rfl (wpAny_bind (wpAny_field hos hds (x := vs) rfl (wpAny_pure ?_)))))))
    refine wpAny_bind (slicePart_m1 ps ?_)
    show wpAny _ _ (if ((-1 : Int) == 0) = true then _ else _) _ _ s
    rw [if_neg (by decide)]
    refine wpAny_bind (slicePart_none (wpAny_bind (slicePart_none (wpAny_bind (wpAny_pure ?_)))))
    show wpAny _ _ (match Builtin.Slice.sliceAdjust none none (-1) (items.size : Int) with | (lo, hi) => pure (lo, (-1 : Int), Builtin.Slice.slicePlaces lo hi (-1))) _ _ s
    rw [adjust_rev]
    show wpAny _ _ (pure ((items.size : Int) - 1, (-1 : Int), Builtin.Slice.slicePlaces ((items.size : Int) - 1) (-1) (-1))) _ _ s
    rw [places_rev]
    exact wpAny_pure q
  refine wpAny_bind (app ?_)
  show wpAny _ _ (if ((((items.size : Int) - 1) == 0 && (-1 : Int) == 1 && items.size == items.size) = true) then _ else _) _ _ s
  rw [if_neg (by
    intro q
    rw [Bool.and_eq_true, Bool.and_eq_true] at q
    exact absurd q.1.2 (by decide)), rev_pick]
  have hz : sizeOk (.seq items.toList.reverse.toArray) := by
    show items.toList.reverse.toArray.size ≤ sizeLine
    simpa using hsz
  first
    | exact wpAny_bind (m := Builtin.Tuple.tupleExact _) (wpAny_newObj_type (wpAny_pure ⟨_, rfl, wpAny_pure h⟩) hz)
    | exact wpAny_bind (m := Builtin.Tuple.tupleExact _) (wpAny_newObj_type (wpAny_bind (wpAny_pure (wpAny_pure ⟨_, rfl, wpAny_pure h⟩))) hz)
    | exact wpAny_bind (wpAny_bind (m := Builtin.Tuple.tupleExact _) (wpAny_newObj_type (wpAny_pure (wpAny_pure ⟨_, rfl, wpAny_pure h⟩)) hz))
    | exact wpAny_bind (wpAny_bind (m := Builtin.Tuple.tupleExact _) (wpAny_newObj_type (wpAny_pure ⟨_, rfl, wpAny_pure h⟩) hz))
end
section
variable {X : Cx}
def rRev (K : PySem.W.Frag) : V → Hp → VK → Prop := fun x H Q => ∃ a xs, x = .ref a ∧ ((SqL K H a xs ∧ ∀ p, H p = none → Q (.ref p) (upd H p (.lst xs.reverse))) ∨ (SqT K H a xs ∧ ∀ p, H p = none → Q (.ref p) (upd H p (.tup xs.reverse))))
/-- e[::-1] -/
theorem pe_rev {e : Expr} {te : TE} {k : Nat} {p1 p2 p3 pos : Pos} (he : PE X e te) : PE X (.Subscript e (.Slice none none (some (.UnaryOp .USub (.Constant (.int 1) k p1) p2)) p3) pos) (tUn (rRev X.K) te) := by
  refine ⟨fun pins s σ H Q I h => ?_⟩
  refine Subscript_ (thn (he.run pins s σ H _ I h) fun v s1 ⟨x, H1, I1, r1, q1⟩ => ?_)
  obtain ⟨a, xs, rfl, q⟩ := q1
  cases r1
  have hst : PO X (some (.UnaryOp .USub (.Constant (.int 1) k p1) p2)) (tPart (tUn (rU fun i => .int (-i)) (tC (.int 1)))) := po_some (pe_un un_neg pe_int)
  refine wpAny_Slice ?_
  rw [evalPart_none]
  refine wpAny_pure (wpAny_pure ?_)
  refine thn (hst.run pins s1 σ H1 (fun o H4 => o = some (-1) ∧ H4 = H1) I1 ⟨1, rfl, -1, rfl, rfl, rfl⟩) fun vs s4 ⟨o, H4, I4, ps, eo, e4⟩ => ?_
  subst eo e4
  have I5 : Inv X pins σ H4 { s4 with heap := s4.heap.push { cls := .type "slice", data := .fields #[.none, .none, vs] } } := I4.kept (t' := s4.toks) fun b ob q => Heap.get?_push_of_some _ q
  show wpAny (model X.prog X.w) X.A (subscriptTail e (.Slice none none (some (.UnaryOp .USub (.Constant (.int 1) k p1) p2)) p3) (.ref a) (.ref s4.heap.objs.size)) (EP X pins σ Q) X.xe { s4 with heap := s4.heap.push { cls := .type "slice", data := .fields #[.none, .none, vs] } }
  rcases q with ⟨hx, q⟩ | ⟨hx, q⟩
  · obtain ⟨its, r, ht, hz⟩ := I5.list hx
    have hlen := r.length
    refine tail_any (ops := [.ref a, .ref s4.heap.objs.size]) ht.isList.typeIs (PySem.slot_list_getitem.lookup) ?_ (by with_unfolding_all rfl)
    refine wpAny_getItem_list_slice ht.isList (Heap.IsSliceOf.new _ .none .none vs) .none .none ps (by decide) ?_ (by rw [List.size_toArray]; omega)
    rw [PySem.W.krv_pick]
    refine ⟨.ref _, _, I5.laid (t' := s4.toks) (o := .lst xs.reverse) (fun b ob q => Heap.get?_push_of_some _ q) (Nat.le_refl _) ?_, rfl, q _ (I5.hok.fresh (Nat.le_refl _))⟩
    exact ⟨by rw [List.length_reverse]; exact hz, _, 0, r.reverse, Heap.get?_push_size _ rfl⟩
  · obtain ⟨its, r, ht, hz⟩ := I5.tuple hx
    have hlen := r.length
    refine tail_any (ops := [.ref a, .ref s4.heap.objs.size]) ht.typeIs (PyProof.Rows.slot_tuple_getitem.lookup) ?_ (by with_unfolding_all rfl)
    refine getItem_tuple_rev ht (Heap.IsSliceOf.new _ .none .none vs) ps ?_ (by rw [List.size_toArray]; omega)
    refine ⟨.ref _, _, I5.laid (t' := s4.toks) (o := .tup xs.reverse) (fun b ob q => Heap.get?_push_of_some _ q) (Nat.le_refl _) ?_, rfl, q _ (I5.hok.fresh (Nat.le_refl _))⟩
    exact ⟨by rw [List.length_reverse]; exact hz, _, r.reverse, IsTup.new _ _⟩
end
/-! ### enumerate of a tuple -/
theorem draws_tup {prog : Program} {w : World} {A : Around} (hh : A.handled = none) (it l : Addr) (hne : l ≠ it) (items : Array Value) :
    Draws prog w A it [it, l] items.size (fun i v => items[i]? = some v) (fun i h => h.IsTupleIter it l i ∧ h.IsTuple l items) where
  live := fun _ _ st => let ⟨o, ho, _⟩ := st.1; ⟨o, ho⟩
  frame := fun _ _ _ st hk => ⟨st.1.at fun o e => hk it (by simp) o e, st.2.at fun o e => hk l (by simp) o e⟩
  item := fun i s Q E hi st hQ =>
    RZ.nextOf_tuple_item st.1 st.2 (x := items[i]) (by simp [hi]) fun h' hit' hs' => hQ _ h' s.toks (by simp [hi]) ⟨hit', st.2.extBut hs'.extBut hne⟩ hs'
  done := fun s Q E st hE => RZ.nextOf_tuple_end hh st.1 st.2 (by simp) hE
theorem meets_enum_tup (l : Addr) (items : Array Value) :
    Meets (Builtin.«enumerate.__new__» ⟨[.type "enumerate", .ref l], []⟩) (fun _ R s => s.heap.IsTuple l items ∧
      R (.ok (.ret (.ref (s.heap.push { cls := .type "tuple_iterator", data := .fields #[.ref l, .int 0 0] }).objs.size)))
        { s with heap := (s.heap.push { cls := .type "tuple_iterator", data := .fields #[.ref l, .int 0 0] }).push { cls := .type "enumerate", data := .fields #[.none, .bool false, .ref s.heap.objs.size, rawInt 0, .none, .none] } }) :=
  .of_wp fun prog w A R s h => by
    obtain ⟨hp, g, d, tk, os⟩ := s
    obtain ⟨hl, h⟩ := h
    have hsub := sub_enumerate
    have hL : Heap.IsTuple (Shared.heap ⟨hp, g, d, tk, os⟩) l items := hl
    wp_walk
    refine wpAny_stack_any fun st => wpAny_pure ?_
    split
    · rename_i c _ _ _ _ _
      cases (c == Value.type "enumerate")
      · wp_walk using wpAny_pyIter_tuple hL
        exact ⟨_, rfl, h⟩
      · wp_walk using wpAny_pyIter_tuple hL
        exact ⟨_, rfl, h⟩
    · wp_walk using wpAny_pyIter_tuple hL
      exact ⟨_, rfl, h⟩
theorem call_enum_tup {prog : Program} {w : World} {A : Around} {E : Value → Shared → Prop} {s : Shared} {l : Addr} {items : Array Value} {Q : Value → Shared → Prop} (hL : s.heap.IsTuple l items)
    (h : ∀ h', IsEnum h' (s.heap.objs.size + 1) s.heap.objs.size 0 .none → h'.IsTupleIter s.heap.objs.size l 0 → (∀ b o, s.heap.get? b = some o → h'.get? b = some o) → Q (.ref (s.heap.objs.size + 1)) { s with heap := h' }) :
    wpAny (model prog w) A (call (.type "enumerate") [.ref l]) Q E s := by
  refine callType_new F.called_enumerate (by decide) (F.typeCall_enumerate_1 _) (F.newCall_enumerate_1 _) (fun obj => F.args_object_init_2 obj _) F.entry_enumerate_new (meets_enum_tup l items) ⟨hL, ?_⟩
  have hz : (s.heap.push { cls := .type "tuple_iterator", data := .fields #[.ref l, .int 0 0] }).objs.size = s.heap.objs.size + 1 := Heap.size_push ..
  show _ ∧ _
  rw [hz]
  have he : IsEnum ((s.heap.push { cls := .type "tuple_iterator", data := .fields #[.ref l, .int 0 0] }).push
      { cls := .type "enumerate", data := .fields #[.none, .bool false, .ref s.heap.objs.size, rawInt 0, .none, .none] }) (s.heap.objs.size + 1) s.heap.objs.size 0 .none := by
    have z := Heap.get?_push_size (s.heap.push { cls := .type "tuple_iterator", data := .fields #[.ref l, .int 0 0] })
      (o := { cls := .type "enumerate", data := .fields #[.none, .bool false, .ref s.heap.objs.size, rawInt 0, .none, .none] }) rfl
    rwa [hz] at z
  exact ⟨⟨_, he, rfl⟩, h _ he ⟨_, Heap.get?_push_of_some _ (Heap.get?_push_size _ rfl), rfl, rfl⟩ fun b o x => Heap.get?_push_of_some _ (Heap.get?_push_of_some _ x)⟩
def IteT (K : PySem.W.Frag) (a : Addr) : It :=
  ⟨fun i H => ∃ (xs : List V) (x : V), SqT K H a xs ∧ xs[i]? = some x, fun i H v H' => ∃ T x, v = .ref T ∧ H T = none ∧ H' = upd H T (.tup [.int (i : Nat), x]) ∧ ∀ xs, SqT K H a xs → xs[i]? = some x, fun i H => ∃ xs : List V, SqT K H a xs ∧ xs.length ≤ i⟩
theorem turn_enumT {P : Program} {w : World} {K : PySem.W.Frag} {elts : List Expr} {kk : Nat} {tpos : Pos} (a e it : Addr) (hai : a ≠ it) (hae : a ≠ e) :
    Turn P w K (.Tuple elts kk tpos) (IteT K a) [e, it] e (fun i h => (∃ old, IsEnum h e it ((i : Nat) : Int) old) ∧ h.IsTupleIter it a i ∧ e ≠ it) where
  mem := by simp
  obj := fun i h st b hb => by
    obtain ⟨⟨old, he⟩, ⟨o, ho, hc, hd⟩, _⟩ := st
    rcases (show b = e ∨ b = it by simpa using hb) with z | z
    · rw [z]; exact ⟨_, he, fun v q => nomatch q⟩
    · rw [z]; exact ⟨o, ho, fun v q => by rw [hd] at q; cases q⟩
  keep := fun i h h' st k => let ⟨⟨old, he⟩, hi, hne⟩ := st; ⟨⟨old, k e (by simp) _ he⟩, hi.at fun o q => k it (by simp) o q, hne⟩
  item := by
    intro X hP hw hK hc i pins s σ H E I hf st hg
    subst hP hw hK
    obtain ⟨⟨old, he⟩, hit, hne⟩ := st
    obtain ⟨xs, x, hq, hx⟩ := hg
    obtain ⟨its, rv, p, hz⟩ := I.tuple hq
    obtain ⟨u, hu, ru⟩ := rv.get hx
    have hil : i < its.toArray.size := by
      have := (List.getElem?_eq_some_iff.mp hu).1
      simpa using this
    have hel : e < s.heap.objs.size := Heap.lt_size he
    have hitl : it < s.heap.objs.size := by obtain ⟨_, q, _⟩ := hit; exact Heap.lt_size q
    have D := draws_tup (prog := X.prog) (w := X.w) (A := X.A.in1) (I.ok.hd hc) it a hai its.toArray
    refine wpAny_pyNext_enum_itemD D he ⟨hit, p⟩ hil hne (by simpa using ⟨hne, hae.symm⟩) fun v h' tk hv ho hst' hT hsz hk => ?_
    have ev : v = u := by
      have : its.toArray[i]? = some u := by simpa using hu
      rw [this] at hv
      exact (Option.some.inj hv).symm
    subst ev
    refine ⟨_, rfl, wpAny_letOwnedTupleGo_enum (s := { s with heap := h', toks := tk + 1 }) ho fun h'' he' sb => ?_⟩
    have hT2 : h''.get? s.heap.objs.size = some { cls := .type "tuple", data := .seq #[.int i tk, v] } := (sb.2 _ (Nat.ne_of_gt hel)).trans hT
    have new : ObjOk X.prog X.w (upd H s.heap.objs.size (.tup [.int (i : Nat), x])) h'' s.heap.objs.size (.tup [.int (i : Nat), x]) :=
      ⟨by show 2 ≤ sizeLine; decide, [.int i tk, v], .cons ⟨_, rfl⟩ (.cons ru .nil), ⟨_, hT2, rfl, _, rfl⟩⟩
    have I1 : Inv X pins σ (upd H s.heap.objs.size (.tup [.int (i : Nat), x])) { s with heap := h'', toks := tk + 1 } :=
      I.turnedNew (ch := [e, it]) (fun b ob hb q => (sb.2 b (fun z => hb (by simp [z]))).trans (hk b ob (fun z => hb (by simp [z])) (fun z => hb (by simp [z])) q)) hf (Nat.le_refl _) new
    refine ⟨.ref s.heap.objs.size, _, I1, rfl, ⟨_, x, rfl, I.hok.fresh (Nat.le_refl _), rfl, fun ys hy => by rw [I.tuple_inj hy hq]; exact hx⟩, ⟨⟨v, ?_⟩, hst'.1.at fun o q => (sb.2 it (Ne.symm hne)).trans q, hne⟩, fun b hb => ?_⟩
    · have e1 : ((i + 1 : Nat) : Int) = (i : Int) + 1 := by omega
      rw [e1]; exact he'
    · have hb' : b < s.heap.objs.size := by
        rcases (show b = e ∨ b = it by simpa using hb) with z | z
        · rw [z]; exact hel
        · rw [z]; exact hitl
      rw [upd_ne (Nat.ne_of_lt hb')]
      exact (hf b hb).1
  done := by
    intro X hP hw hK hc i pins s σ H E I hf st hg
    subst hP hw hK
    obtain ⟨⟨old, he⟩, hit, hne⟩ := st
    obtain ⟨xs, hq, hx⟩ := hg
    obtain ⟨its, rv, p, hz⟩ := I.tuple hq
    obtain ⟨f0, f1, f2, f3, f4, f5⟩ := hf it (by simp)
    have hl := rv.length
    have hT : s.TypeIs (.ref e) "enumerate" := ⟨_, he, rfl⟩
    unfold pyNext
    refine wpAny_bind (wpAny_attempt (wpAny_callSpecial?_slot (name := Str.ofString "__next__") hT F.slot_enumerate_next
      (wpAny_call_entry F.slot_enumerate_next hT F.entry_enumerate_next ?_ (F.args_enumerate_next_1 _))))
    show wpAny _ _ (field (.ref e) 2 >>= _) _ _ _
    refine wpAny_bind (wpAny_field he rfl (x := .ref it) rfl ?_)
    refine wpAny_bind (RZ.nextOf_tuple_end (A := X.A.in1) (I.ok.hd hc) hit p (by simp; omega) fun h' x he' hx' => ?_)
    obtain ⟨o, ho, hc⟩ := hx'
    refine wpAny_bind (wpAny_isInstance (T := "StopIteration") (b := true) ⟨o, ho, hc⟩ isSubtype_stop ?_)
    exact wpAny_pure ⟨rfl, I.turned (t' := s.toks) (fun b o hb q => he' b o hb q) f0 f1 f3 f4 f5⟩
  self := fun A i s Q E st h => let ⟨⟨_, he⟩, _⟩ := st; wpAny_pyIter_enum he h
def iEnumA (K : PySem.W.Frag) (ta : TE) : TI := fun σ H R => ta σ H fun v H1 => ∃ a xs, v = .ref a ∧ ((SqL K H1 a xs ∧ R (Ite K a) H1) ∨ (SqT K H1 a xs ∧ R (IteT K a) H1))
theorem pi_enumA {X : Cx} {e : Expr} {ta : TE} {p pos tpos : Pos} {elts : List Expr} {kk : Nat} (hg : Gl X "enumerate") (hm : X.mg "enumerate" = none) (ha : PE X e ta) (hs : starEach [e] X.env = [(false, eval e X.env)]) :
    PI X (.Tuple elts kk tpos) (.Call (.Name "enumerate" p) [e] [] pos) (iEnumA X.K ta) := by
  refine ⟨fun pins s σ H R I h => ?_⟩
  refine Call_ (ld_blt I hg hm boot_enumerate (PyProof.Rows.callWith_type1 (thn ((pa_cons ha pa_nil (by rw [hs]; rfl)).run pos pins s σ H (fun vs H1 => ∃ v, vs = [v] ∧ ∃ a xs, v = .ref a ∧ ((SqL X.K H1 a xs ∧ R (Ite X.K a) H1) ∨ (SqT X.K H1 a xs ∧ R (IteT X.K a) H1))) I ?_) fun us s1 ⟨vs, H1, I1, r1, v, ev, q1⟩ => ?_) hs rfl))
  · exact (show ta σ H _ from by
      have h' : ta σ H _ := h
      refine cast (congrArg (ta σ H) ?_) h'
      funext v H1
      apply propext
      constructor
      · intro z
        exact ⟨v, rfl, z⟩
      · rintro ⟨v', e, z⟩
        cases e
        exact z)
  · subst ev
    obtain ⟨a, xs, rfl, q⟩ := q1
    cases r1 with
    | cons r rr =>
      cases rr
      cases r
      rcases q with ⟨hq, q⟩ | ⟨hq, q⟩
      · obtain ⟨its, rv, p', hz⟩ := I1.list hq
        refine call_enumerate_list p'.isList fun h' he hit hsz hk => wpAny_pyIter_enum he ?_
        have I2 : Inv X pins σ H1 { s1 with heap := h' } := I1.kept (t' := s1.toks) hk
        refine ⟨s1.heap.objs.size + 1, [s1.heap.objs.size + 1, s1.heap.objs.size], _, _, H1, rfl, I2, turn_enum a (s1.heap.objs.size + 1) s1.heap.objs.size, ⟨⟨.none, he⟩, hit, Nat.succ_ne_self _⟩, fun b hb => ?_, q⟩
        have hle : s1.heap.objs.size ≤ b := by
          rcases (show b = s1.heap.objs.size + 1 ∨ b = s1.heap.objs.size by simpa using hb) with z | z
          · exact z ▸ Nat.le_succ _
          · exact z ▸ Nat.le_refl _
        exact I1.fpOk hle (I1.hok.fresh hle)
      · obtain ⟨its, rv, p', hz⟩ := I1.tuple hq
        have hlt : a < s1.heap.objs.size := by obtain ⟨o, ho, _⟩ := p'; exact Heap.lt_size ho
        refine call_enum_tup (show s1.heap.IsTuple a its.toArray from p') fun h' he hit hk => wpAny_pyIter_enum he ?_
        have I2 : Inv X pins σ H1 { s1 with heap := h' } := I1.kept (t' := s1.toks) hk
        refine ⟨s1.heap.objs.size + 1, [s1.heap.objs.size + 1, s1.heap.objs.size], _, _, H1, rfl, I2, turn_enumT a (s1.heap.objs.size + 1) s1.heap.objs.size (Nat.ne_of_lt hlt) (Nat.ne_of_lt (Nat.lt_succ_of_lt hlt)), ⟨⟨.none, he⟩, hit, Nat.succ_ne_self _⟩, fun b hb => ?_, q⟩
        have hle : s1.heap.objs.size ≤ b := by
          rcases (show b = s1.heap.objs.size + 1 ∨ b = s1.heap.objs.size by simpa using hb) with z | z
          · exact z ▸ Nat.le_succ _
          · exact z ▸ Nat.le_refl _
        exact I1.fpOk hle (I1.hok.fresh hle)
/-! ### zip of two sequences, each a list or a tuple -/
def ItX (b : Bool) (h : Heap) (it l : Addr) (i : Nat) : Prop := match b with
  | true => h.IsTupleIter it l i
  | false => h.IsListIter it l i
def OfX (b : Bool) (h : Heap) (l : Addr) (items : Array Value) : Prop := match b with
  | true => h.IsTuple l items
  | false => h.IsList l items
theorem ItX.ext {b : Bool} {h h' : Heap} {a c l : Addr} {i : Nat} (x : ItX b h a l i) (hs : Heap.ExtBut c h h') (n : a ≠ c) : ItX b h' a l i := by
  cases b
  · exact Heap.IsListIter.extBut x hs n
  · exact Heap.IsTupleIter.extBut x hs n
theorem ItX.at {b : Bool} {h h' : Heap} {a l : Addr} {i : Nat} (x : ItX b h a l i) (e : ∀ o, h.get? a = some o → h'.get? a = some o) : ItX b h' a l i := by
  cases b
  · exact Heap.IsListIter.at x e
  · exact Heap.IsTupleIter.at x e
theorem ItX.there {b : Bool} {h : Heap} {a l : Addr} {i : Nat} (x : ItX b h a l i) : ∃ o, h.get? a = some o ∧ ∀ v, o.data ≠ .cell v := by
  cases b
  · obtain ⟨o, e, _, d⟩ := x
    exact ⟨o, e, fun v q => by rw [d] at q; cases q⟩
  · obtain ⟨o, e, _, d⟩ := x
    exact ⟨o, e, fun v q => by rw [d] at q; cases q⟩
theorem OfX.ext {b : Bool} {h h' : Heap} {a c : Addr} {xs : Array Value} (x : OfX b h a xs) (hs : Heap.ExtBut c h h') (n : a ≠ c) : OfX b h' a xs := by
  cases b
  · exact Heap.IsList.extBut x hs n
  · exact Heap.IsTuple.extBut x hs n
theorem OfX.lt {b : Bool} {h : Heap} {a : Addr} {xs : Array Value} (x : OfX b h a xs) : a < h.objs.size := by
  cases b
  · obtain ⟨o, e, _⟩ := x
    exact Heap.lt_size e
  · obtain ⟨o, e, _⟩ := x
    exact Heap.lt_size e
def iterCls : Bool → String
  | true => "tuple_iterator"
  | false => "list_iterator"
def iterObj (b : Bool) (l : Addr) : Obj := { cls := .type (iterCls b), data := .fields #[.ref l, .int 0 0] }
section
variable {prog : Program} {w : World} {A : Around} {E : Value → Shared → Prop} {s : Shared}
theorem nextX_item {b : Bool} {it l : Addr} {i : Nat} {items : Array Value} {x : Value} {Q : Value → Shared → Prop} (hit : ItX b s.heap it l i) (hl : OfX b s.heap l items) (hx : items[i]? = some x)
    (hQ : ∀ h', ItX b h' it l (i + 1) → Heap.SameBut it s.heap h' → Q x { s with heap := h' }) : wpAny (model prog w) A (Builtin.SmallTypes.nextOf (.ref it)) Q E s := by
  cases b
  · exact wpAny_nextOf_list_item hit hl hx hQ
  · exact RZ.nextOf_tuple_item hit hl hx hQ
theorem nextX_end {b : Bool} {it l : Addr} {i : Nat} {items : Array Value} {Q : Value → Shared → Prop} (hh : A.handled = none) (hit : ItX b s.heap it l i) (hl : OfX b s.heap l items) (hx : items[i]? = none)
    (hE : ∀ h' e, Heap.ExtBut it s.heap h' → (∃ o, h'.get? e = some o ∧ o.cls = .type "StopIteration") → E (.ref e) { s with heap := h' }) : wpAny (model prog w) A (Builtin.SmallTypes.nextOf (.ref it)) Q E s := by
  cases b
  · exact wpAny_nextOf_list_end hh hit hl hx hE
  · exact RZ.nextOf_tuple_end hh hit hl hx hE
theorem iterX {b : Bool} {l : Addr} {items : Array Value} {Q : Value → Shared → Prop} (hl : OfX b s.heap l items) (h : Q (.ref s.heap.objs.size) { s with heap := s.heap.push (iterObj b l) }) :
    wpAny (model prog w) A (pyIter (.ref l)) Q E s := by
  cases b
  · exact wpAny_pyIter_list hl h
  · exact wpAny_pyIter_tuple hl h
/-- what stands of a zip between two turns -/
structure ZX (b c : Bool) (z TI TO i1 i2 l1 l2 : Addr) (k : Nat) (h : Heap) : Prop where
  zip : IsZip h z TI TO .none
  ti : IsPair h TI (.ref i1) (.ref i2)
  to_ : ∃ x y, IsPair h TO x y
  n1 : ItX b h i1 l1 k
  n2 : ItX c h i2 l2 k
theorem zipX_item {b c : Bool} {z TI TO i1 i2 l1 l2 : Addr} {k : Nat} {xs ys : Array Value} {x y : Value} {Q : Value → Shared → Prop} (D : ZipApart z TI TO i1 i2 l1 l2) (Z : ZX b c z TI TO i1 i2 l1 l2 k s.heap)
    (hl1 : OfX b s.heap l1 xs) (hl2 : OfX c s.heap l2 ys) (hx : xs[k]? = some x) (hy : ys[k]? = some y)
    (hQ : ∀ h', IsZip h' z TI TO (rawInt s.heap.objs.size) → IsPair h' TO x y → ItX b h' i1 l1 (k + 1) → ItX c h' i2 l2 (k + 1) → IsPair h' s.heap.objs.size x y →
      (∀ a o, a ≠ z → a ≠ TO → a ≠ i1 → a ≠ i2 → s.heap.get? a = some o → h'.get? a = some o) → Q (.ref s.heap.objs.size) { s with heap := h' }) :
    wpAny (model prog w) A (Builtin.«zip.__next__» ⟨[.ref z], []⟩) (fun fin s' => ∃ v, fin = .done (.ret v) ∧ Q v s') E s := by
  obtain ⟨hz, hTI, ⟨a0, b0, hTO⟩, h1, h2⟩ := Z
  show wpAny _ _ (field (.ref z) 2 >>= _) _ _ _
  refine wpAny_bind (wpAny_field hz rfl (x := .bool false) rfl ?_)
  show wpAny _ _ (field (.ref z) 3 >>= _) _ _ _
  refine wpAny_bind (wpAny_field hz rfl (x := .ref TI) rfl (wpAny_bind (wpAny_seqItems hTI rfl ?_)))
  show wpAny _ _ (Builtin.SmallTypes.ownedTupleIsFree (.ref z) >>= _) _ _ _
  refine wpAny_bind ?_
  unfold Builtin.SmallTypes.ownedTupleIsFree
  refine wpAny_bind (wpAny_field hz rfl (x := .none) rfl (wpAny_pure ?_))
  simp only [if_true]
  refine wpAny_bind (wpAny_rule (wpAny_bind (wpAny_field hz rfl (x := .ref TO) rfl (wpAny_bind (wpAny_setField_rec hz (by simp) fun g1 z1 s1 => ?_)))))
  replace z1 : IsZip g1 z TI TO .ellipsis := z1
  refine wpAny_bind ?_
  simp only [List.zipIdx_cons, List.zipIdx_nil, List.forIn_cons, List.forIn_nil]
  -- the first one's next
  refine wpAny_bind (wpAny_bind (wpAny_onRaise ?_))
  show wpAny _ _ (Builtin.SmallTypes.nextOf (.ref i1) >>= _) _ _ _
  refine wpAny_bind (nextX_item (h1.ext s1.extBut D.i1z) (hl1.ext s1.extBut D.l1z) hx fun g2 n1 s2 => wpAny_pure ?_)
  have t2 : IsPair g2 TO a0 b0 := s2.extBut _ _ D.TOi1 (s1.extBut _ _ D.TOz hTO)
  refine wpAny_bind (wpAny_seqItems t2 rfl (wpAny_bind (wpAny_updateSeq_pair t2 fun g3 t3 s3 => ?_)))
  replace t3 : IsPair g3 TO x b0 := t3
  refine wpAny_bind (wpAny_letGo (wpAny_pure ?_))
  -- the second one's
  refine wpAny_bind (wpAny_bind (wpAny_onRaise ?_))
  show wpAny _ _ (Builtin.SmallTypes.nextOf (.ref i2) >>= _) _ _ _
  refine wpAny_bind (nextX_item (((h2.ext s1.extBut D.i2z).ext s2.extBut D.i12.symm).ext s3.extBut D.TOi2.symm) (((hl2.ext s1.extBut D.l2z).ext s2.extBut D.l2i1).ext s3.extBut D.l2TO) hy fun g4 n2 s4 => wpAny_pure ?_)
  have t4 : IsPair g4 TO x b0 := s4.extBut _ _ D.TOi2 t3
  refine wpAny_bind (wpAny_seqItems t4 rfl (wpAny_bind (wpAny_updateSeq_pair t4 fun g5 t5 s5 => ?_)))
  replace t5 : IsPair g5 TO x y := t5
  refine wpAny_bind (wpAny_letGo (wpAny_pure (wpAny_pure (wpAny_bind (wpAny_seqItems t5 rfl (wpAny_bind (wpAny_newTuple ?_)))))))
  have size5 : g5.objs.size = s.heap.objs.size := by rw [s5.1, s4.1, s3.1, s2.1, s1.1]
  have z5 : IsZip g5 z TI TO .ellipsis := s5.extBut _ _ D.TOz.symm (s4.extBut _ _ D.i2z.symm (s3.extBut _ _ D.TOz.symm (s2.extBut _ _ D.i1z.symm z1)))
  have stay5 : ∀ a o, a ≠ z → a ≠ TO → a ≠ i1 → a ≠ i2 → s.heap.get? a = some o → g5.get? a = some o := fun a o c1 c2 c3 c4 e =>
    s5.extBut _ _ c2 (s4.extBut _ _ c4 (s3.extBut _ _ c2 (s2.extBut _ _ c3 (s1.extBut _ _ c1 e))))
  have m1 : ItX b g5 i1 l1 (k + 1) := ((n1.ext s3.extBut D.TOi1.symm).ext s4.extBut D.i12).ext s5.extBut D.TOi1.symm
  have m2 : ItX c g5 i2 l2 (k + 1) := n2.ext s5.extBut D.TOi2.symm
  have zl : z < g5.objs.size := Heap.lt_size z5
  show wpAny _ _ (Builtin.SmallTypes.ownedTupleHandOut (.ref z) (.ref g5.objs.size) >>= _) _ _ _
  refine wpAny_bind ?_
  unfold Builtin.SmallTypes.ownedTupleHandOut
  have z6 : IsZip (g5.push { cls := .type "tuple", data := .seq #[x, y] }) z TI TO .ellipsis := Heap.get?_push_of_some _ z5
  refine wpAny_bind (wpAny_setField_rec z6 (by simp) fun g7 z7 s7 => ?_)
  replace z7 : IsZip g7 z TI TO (rawInt g5.objs.size) := z7
  refine wpAny_setField_rec z7 (by simp) fun g8 z8 s8 => ?_
  replace z8 : IsZip g8 z TI TO (rawInt g5.objs.size) := z8
  have up : ∀ a o, a ≠ z → g5.get? a = some o → g8.get? a = some o := fun a o c1 e => s8.extBut _ _ c1 (s7.extBut _ _ c1 (Heap.get?_push_of_some _ e))
  have t8 : IsPair g8 g5.objs.size x y := s8.extBut _ _ (Nat.ne_of_gt zl) (s7.extBut _ _ (Nat.ne_of_gt zl) (Heap.get?_push_size _ rfl))
  rw [size5] at z8 t8
  refine wpAny_pure ⟨_, rfl, ?_⟩
  show Q (.ref g5.objs.size) _
  rw [size5]
  exact hQ g8 z8 (up _ _ D.TOz t5) (m1.at fun o e => up _ o D.i1z e) (m2.at fun o e => up _ o D.i2z e) t8 fun a o c1 c2 c3 c4 e => up a o c1 (stay5 a o c1 c2 c3 c4 e)
theorem zipX_end {b c : Bool} {z TI TO i1 i2 l1 l2 : Addr} {k : Nat} {xs ys : Array Value} {Q : PySem.Fin → Shared → Prop} (hh : A.handled = none) (D : ZipApart z TI TO i1 i2 l1 l2) (Z : ZX b c z TI TO i1 i2 l1 l2 k s.heap)
    (hl1 : OfX b s.heap l1 xs) (hl2 : OfX c s.heap l2 ys) (hend : xs[k]? = none ∨ ys[k]? = none)
    (hE : ∀ h' e, (∀ a o, a ≠ z → a ≠ TO → a ≠ i1 → a ≠ i2 → s.heap.get? a = some o → h'.get? a = some o) → (∃ o, h'.get? e = some o ∧ o.cls = .type "StopIteration") → E (.ref e) { s with heap := h' }) :
    wpAny (model prog w) A (Builtin.«zip.__next__» ⟨[.ref z], []⟩) Q E s := by
  obtain ⟨hz, hTI, ⟨a0, b0, hTO⟩, h1, h2⟩ := Z
  show wpAny _ _ (field (.ref z) 2 >>= _) _ _ _
  refine wpAny_bind (wpAny_field hz rfl (x := .bool false) rfl ?_)
  show wpAny _ _ (field (.ref z) 3 >>= _) _ _ _
  refine wpAny_bind (wpAny_field hz rfl (x := .ref TI) rfl (wpAny_bind (wpAny_seqItems hTI rfl ?_)))
  show wpAny _ _ (Builtin.SmallTypes.ownedTupleIsFree (.ref z) >>= _) _ _ _
  refine wpAny_bind ?_
  unfold Builtin.SmallTypes.ownedTupleIsFree
  refine wpAny_bind (wpAny_field hz rfl (x := .none) rfl (wpAny_pure ?_))
  simp only [if_true]
  refine wpAny_bind (wpAny_rule (wpAny_bind (wpAny_field hz rfl (x := .ref TO) rfl (wpAny_bind (wpAny_setField_rec hz (by simp) fun g1 z1 s1 => ?_)))))
  replace z1 : IsZip g1 z TI TO .ellipsis := z1
  refine wpAny_bind ?_
  simp only [List.zipIdx_cons, List.zipIdx_nil, List.forIn_cons, List.forIn_nil]
  refine wpAny_bind (wpAny_bind (wpAny_onRaise ?_))
  show wpAny _ _ (Builtin.SmallTypes.nextOf (.ref i1) >>= _) _ _ _
  cases hx : xs[k]? with
  | none =>
    refine wpAny_bind (nextX_end hh (h1.ext s1.extBut D.i1z) (hl1.ext s1.extBut D.l1z) hx fun g2 e s2 he => ?_)
    obtain ⟨oe, hoe, hce⟩ := he
    have z2 : IsZip g2 z TI TO .ellipsis := s2 _ _ D.i1z.symm z1
    have nez : e ≠ z := fun q => by subst q; rw [z2] at hoe; cases hoe; simp at hce
    exact wpAny_setField_rec z2 (by simp) fun g3 _ s3 => hE g3 e (fun a o c1 _ c3 _ q => s3.extBut _ _ c1 (s2 _ _ c3 (s1.extBut _ _ c1 q))) ⟨oe, s3.extBut _ _ nez hoe, hce⟩
  | some x =>
    have hy : ys[k]? = none := by
      rcases hend with q | q
      · rw [hx] at q; cases q
      · exact q
    refine wpAny_bind (nextX_item (h1.ext s1.extBut D.i1z) (hl1.ext s1.extBut D.l1z) hx fun g2 n1 s2 => wpAny_pure ?_)
    have t2 : IsPair g2 TO a0 b0 := s2.extBut _ _ D.TOi1 (s1.extBut _ _ D.TOz hTO)
    refine wpAny_bind (wpAny_seqItems t2 rfl (wpAny_bind (wpAny_updateSeq_pair t2 fun g3 t3 s3 => ?_)))
    refine wpAny_bind (wpAny_letGo (wpAny_pure ?_))
    refine wpAny_bind (wpAny_bind (wpAny_onRaise ?_))
    show wpAny _ _ (Builtin.SmallTypes.nextOf (.ref i2) >>= _) _ _ _
    refine wpAny_bind (nextX_end hh (((h2.ext s1.extBut D.i2z).ext s2.extBut D.i12.symm).ext s3.extBut D.TOi2.symm) (((hl2.ext s1.extBut D.l2z).ext s2.extBut D.l2i1).ext s3.extBut D.l2TO) hy fun g4 e s4 he => ?_)
    obtain ⟨oe, hoe, hce⟩ := he
    have z4 : IsZip g4 z TI TO .ellipsis := s4 _ _ D.i2z.symm (s3.extBut _ _ D.TOz.symm (s2.extBut _ _ D.i1z.symm z1))
    have nez : e ≠ z := fun q => by subst q; rw [z4] at hoe; cases hoe; simp at hce
    exact wpAny_setField_rec z4 (by simp) fun g5 _ s5 => hE g5 e (fun a o c1 c2 c3 c4 q => s5.extBut _ _ c1 (s4 _ _ c4 (s3.extBut _ _ c2 (s2.extBut _ _ c3 (s1.extBut _ _ c1 q))))) ⟨oe, s5.extBut _ _ nez hoe, hce⟩
end
abbrev zx1 (b : Bool) (h : Heap) (l1 : Addr) : Heap := h.push (iterObj b l1)
abbrev zx2 (b c : Bool) (h : Heap) (l1 l2 : Addr) : Heap := (zx1 b h l1).push (iterObj c l2)
abbrev zx3 (b c : Bool) (h : Heap) (l1 l2 : Addr) : Heap := (zx2 b c h l1 l2).push { cls := .type "tuple", data := .seq #[.ref h.objs.size, .ref (zx1 b h l1).objs.size] }
abbrev zx4 (b c : Bool) (h : Heap) (l1 l2 : Addr) : Heap := (zx3 b c h l1 l2).push { cls := .type "tuple", data := .seq #[.none, .none] }
abbrev zx5 (b c : Bool) (h : Heap) (l1 l2 : Addr) : Heap := (zx4 b c h l1 l2).push { cls := .type "zip", data := .fields #[.none, .bool false, .bool false, .ref (zx2 b c h l1 l2).objs.size, .ref (zx3 b c h l1 l2).objs.size] }
theorem OfX.push {b : Bool} {h : Heap} {l : Addr} {xs : Array Value} (x : OfX b h l xs) (o : Obj) : OfX b (h.push o) l xs := by
  cases b
  · exact Heap.IsList.push x _
  · exact Heap.IsTuple.push x _
theorem meets_zipX (b c : Bool) (l1 l2 : Addr) (xs ys : Array Value) :
    Meets (Builtin.«zip.__new__» ⟨[.type "zip", .ref l1, .ref l2], []⟩) (fun _ R s => OfX b s.heap l1 xs ∧ OfX c s.heap l2 ys ∧
      R (.ok (.ret (.ref (zx4 b c s.heap l1 l2).objs.size))) { s with heap := zx5 b c s.heap l1 l2 }) :=
  .of_wp fun prog w A R s h => by
    obtain ⟨hp, g, d, tk, os⟩ := s
    obtain ⟨hl1, hl2, h⟩ := h
    have hsub := sub_zip
    have L1 : OfX b (Shared.heap ⟨hp, g, d, tk, os⟩) l1 xs := hl1
    have L2 : OfX c (Shared.heap ⟨hp.push (iterObj b l1), g, d, tk, os⟩) l2 ys := hl2.push _
    wp_walk using iterX L1, iterX L2
    exact ⟨_, rfl, h⟩
theorem call_zipX {prog : Program} {w : World} {A : Around} {E : Value → Shared → Prop} {s : Shared} {b c : Bool} {l1 l2 : Addr} {xs ys : Array Value} {Q : Value → Shared → Prop} (hl1 : OfX b s.heap l1 xs) (hl2 : OfX c s.heap l2 ys)
    (h : ∀ h', ZX b c (s.heap.objs.size + 4) (s.heap.objs.size + 2) (s.heap.objs.size + 3) s.heap.objs.size (s.heap.objs.size + 1) l1 l2 0 h' → (∀ a o, s.heap.get? a = some o → h'.get? a = some o) → Q (.ref (s.heap.objs.size + 4)) { s with heap := h' }) :
    wpAny (model prog w) A (call (.type "zip") [.ref l1, .ref l2]) Q E s := by
  refine callType_new F.called_zip (by decide) (F.typeCall_zip_2 _ _) (F.newCall_zip_2 _ _) (fun obj => F.args_object_init_3 obj _ _) F.entry_zip_new (meets_zipX b c l1 l2 xs ys) ⟨hl1, hl2, ?_⟩
  have z1 : (zx1 b s.heap l1).objs.size = s.heap.objs.size + 1 := Heap.size_push ..
  have z2 : (zx2 b c s.heap l1 l2).objs.size = s.heap.objs.size + 2 := by rw [Heap.size_push, z1]
  have z3 : (zx3 b c s.heap l1 l2).objs.size = s.heap.objs.size + 3 := by rw [Heap.size_push, z2]
  have z4 : (zx4 b c s.heap l1 l2).objs.size = s.heap.objs.size + 4 := by rw [Heap.size_push, z3]
  have up1 : ∀ a o, (zx1 b s.heap l1).get? a = some o → (zx5 b c s.heap l1 l2).get? a = some o := fun a o e => Heap.get?_push_of_some _ (Heap.get?_push_of_some _ (Heap.get?_push_of_some _ (Heap.get?_push_of_some _ e)))
  have up2 : ∀ a o, (zx2 b c s.heap l1 l2).get? a = some o → (zx5 b c s.heap l1 l2).get? a = some o := fun a o e => Heap.get?_push_of_some _ (Heap.get?_push_of_some _ (Heap.get?_push_of_some _ e))
  have up3 : ∀ a o, (zx3 b c s.heap l1 l2).get? a = some o → (zx5 b c s.heap l1 l2).get? a = some o := fun a o e => Heap.get?_push_of_some _ (Heap.get?_push_of_some _ e)
  have g5 : IsZip (zx5 b c s.heap l1 l2) (s.heap.objs.size + 4) (s.heap.objs.size + 2) (s.heap.objs.size + 3) .none := by
    have q : IsZip (zx5 b c s.heap l1 l2) (zx4 b c s.heap l1 l2).objs.size (zx2 b c s.heap l1 l2).objs.size (zx3 b c s.heap l1 l2).objs.size .none := Heap.get?_push_size (zx4 b c s.heap l1 l2) rfl
    generalize zx5 b c s.heap l1 l2 = h5 at q ⊢
    rw [z4, z2, z3] at q
    exact q
  have g4 : IsPair (zx5 b c s.heap l1 l2) (s.heap.objs.size + 3) .none .none := by
    have q : IsPair (zx5 b c s.heap l1 l2) (zx3 b c s.heap l1 l2).objs.size .none .none := Heap.get?_push_of_some _ (Heap.get?_push_size (zx3 b c s.heap l1 l2) rfl)
    generalize zx5 b c s.heap l1 l2 = h5 at q ⊢
    rw [z3] at q
    exact q
  have g3 : IsPair (zx5 b c s.heap l1 l2) (s.heap.objs.size + 2) (.ref s.heap.objs.size) (.ref (s.heap.objs.size + 1)) := by
    have q : IsPair (zx5 b c s.heap l1 l2) (zx2 b c s.heap l1 l2).objs.size (.ref s.heap.objs.size) (.ref (zx1 b s.heap l1).objs.size) := up3 _ _ (Heap.get?_push_size (zx2 b c s.heap l1 l2) rfl)
    generalize zx5 b c s.heap l1 l2 = h5 at q ⊢
    rw [z2, z1] at q
    exact q
  have g2 : ItX c (zx5 b c s.heap l1 l2) (s.heap.objs.size + 1) l2 0 := by
    have q := up2 _ _ (Heap.get?_push_size (zx1 b s.heap l1) (o := iterObj c l2) rfl)
    generalize zx5 b c s.heap l1 l2 = h5 at q ⊢
    rw [z1] at q
    cases c
    · exact ⟨_, q, rfl, rfl⟩
    · exact ⟨_, q, rfl, rfl⟩
  have g1 : ItX b (zx5 b c s.heap l1 l2) s.heap.objs.size l1 0 := by
    have q := up1 _ _ (Heap.get?_push_size s.heap (o := iterObj b l1) rfl)
    cases b
    · exact ⟨_, q, rfl, rfl⟩
    · exact ⟨_, q, rfl, rfl⟩
  have Z : ZX b c (s.heap.objs.size + 4) (s.heap.objs.size + 2) (s.heap.objs.size + 3) s.heap.objs.size (s.heap.objs.size + 1) l1 l2 0 (zx5 b c s.heap l1 l2) := ⟨g5, g3, ⟨_, _, g4⟩, g1, g2⟩
  show _ ∧ _
  rw [z4]
  exact ⟨⟨_, g5, rfl⟩, h _ Z fun a o x => up1 a o (Heap.get?_push_of_some _ x)⟩
def SqX (b : Bool) (K : PySem.W.Frag) (H : Hp) (a : Addr) (xs : List V) : Prop := match b with
  | true => SqT K H a xs
  | false => SqL K H a xs
theorem SqX.at {X : Cx} {pins : List (Addr × Obj)} {σ : L2.St} {H : Hp} {s : Shared} {b : Bool} {a : Addr} {xs : List V} (I : Inv X pins σ H s) (h : SqX b X.K H a xs) : ∃ its : List Value, Vals xs its ∧ OfX b s.heap a its.toArray := by
  cases b
  · obtain ⟨its, r, p, _⟩ := I.list h
    exact ⟨its, r, p.isList⟩
  · obtain ⟨its, r, p, _⟩ := I.tuple h
    exact ⟨its, r, p⟩
theorem SqX.inj {X : Cx} {pins : List (Addr × Obj)} {σ : L2.St} {H : Hp} {s : Shared} {b : Bool} {a : Addr} {xs ys : List V} (I : Inv X pins σ H s) (h : SqX b X.K H a xs) (h' : SqX b X.K H a ys) : xs = ys := by
  cases b
  · exact I.list_inj h h'
  · exact I.tuple_inj h h'
def ItzX (b c : Bool) (K : PySem.W.Frag) (a1 a2 : Addr) : It :=
  ⟨fun i H => ∃ (xs ys : List V) (x y : V), SqX b K H a1 xs ∧ SqX c K H a2 ys ∧ xs[i]? = some x ∧ ys[i]? = some y,
    fun i H v H' => ∃ T x y, v = .ref T ∧ H T = none ∧ H' = upd H T (.tup [x, y]) ∧ (∀ xs, SqX b K H a1 xs → xs[i]? = some x) ∧ ∀ ys, SqX c K H a2 ys → ys[i]? = some y,
    fun i H => ∃ xs ys : List V, SqX b K H a1 xs ∧ SqX c K H a2 ys ∧ (xs.length ≤ i ∨ ys.length ≤ i)⟩
theorem turn_zipX {P : Program} {w : World} {K : PySem.W.Frag} {elts : List Expr} {kk : Nat} {tpos : Pos} {b c : Bool} {a1 a2 z TI TO i1 i2 : Addr} (D : ZipApart z TI TO i1 i2 a1 a2) :
    Turn P w K (.Tuple elts kk tpos) (ItzX b c K a1 a2) [z, TI, TO, i1, i2] z (fun i h => ZX b c z TI TO i1 i2 a1 a2 i h) where
  mem := by simp
  obj := fun i h st d hd => by
    obtain ⟨hz, hTI, ⟨x, y, hTO⟩, h1, h2⟩ := st
    rcases (show d = z ∨ d = TI ∨ d = TO ∨ d = i1 ∨ d = i2 by simpa using hd) with q | q | q | q | q
    · rw [q]; exact ⟨_, hz, fun v q => nomatch q⟩
    · rw [q]; exact ⟨_, hTI, fun v q => nomatch q⟩
    · rw [q]; exact ⟨_, hTO, fun v q => nomatch q⟩
    · rw [q]; exact h1.there
    · rw [q]; exact h2.there
  keep := fun i h h' st k => by
    obtain ⟨hz, hTI, ⟨x, y, hTO⟩, h1, h2⟩ := st
    exact ⟨k z (by simp) _ hz, k TI (by simp) _ hTI, ⟨x, y, k TO (by simp) _ hTO⟩, h1.at fun o q => k i1 (by simp) o q, h2.at fun o q => k i2 (by simp) o q⟩
  item := by
    intro X hP hw hK hc i pins s σ H E I hf st hg
    subst hP hw hK
    obtain ⟨xs, ys, x, y, hqx, hqy, hx, hy⟩ := hg
    obtain ⟨its, rv, p⟩ := hqx.at I
    obtain ⟨its2, rv2, p2⟩ := hqy.at I
    obtain ⟨u, hu, ru⟩ := rv.get hx
    obtain ⟨u2, hu2, ru2⟩ := rv2.get hy
    have zl : z < s.heap.objs.size := Heap.lt_size st.zip
    have hT0 : s.TypeIs (.ref z) "zip" := ⟨_, st.zip, rfl⟩
    unfold pyNext
    refine wpAny_bind (wpAny_attempt (wpAny_callSpecial?_slot (name := Str.ofString "__next__") hT0 F.slot_zip_next
      (wpAny_call_entry F.slot_zip_next hT0 F.entry_zip_next
        (zipX_item D st p p2 (x := u) (y := u2) (by simpa using hu) (by simpa using hu2) fun h' z' TO' h1' h2' hT hk => wpAny_pure ?_) (F.args_zip_next_1 _))))
    refine ⟨_, rfl, wpAny_letOwnedTupleGo_zip (s := { s with heap := h' }) z' fun h'' z'' sb => ?_⟩
    have hT2 : h''.get? s.heap.objs.size = some { cls := .type "tuple", data := .seq #[u, u2] } := (sb.2 _ (Nat.ne_of_gt zl)).trans hT
    have new : ObjOk X.prog X.w (upd H s.heap.objs.size (.tup [x, y])) h'' s.heap.objs.size (.tup [x, y]) :=
      ⟨by show 2 ≤ sizeLine; decide, [u, u2], .cons ru (.cons ru2 .nil), ⟨_, hT2, rfl, _, rfl⟩⟩
    have I1 : Inv X pins σ (upd H s.heap.objs.size (.tup [x, y])) { s with heap := h'' } :=
      I.turnedNew (t' := s.toks) (ch := [z, TI, TO, i1, i2]) (fun d o hb q => (sb.2 d (fun q' => hb (by simp [q']))).trans (hk d o (fun q' => hb (by simp [q'])) (fun q' => hb (by simp [q'])) (fun q' => hb (by simp [q'])) (fun q' => hb (by simp [q'])) q)) hf (Nat.le_refl _) new
    refine ⟨.ref s.heap.objs.size, _, I1, rfl, ⟨_, x, y, rfl, I.hok.fresh (Nat.le_refl _), rfl, fun l hl => by rw [hl.inj I hqx]; exact hx, fun l hl => by rw [hl.inj I hqy]; exact hy⟩, ⟨z'', ?_, ⟨u, u2, ?_⟩, ?_, ?_⟩, fun d hd => ?_⟩
    · exact (sb.2 _ D.TIz).trans (hk _ _ D.TIz D.TITO D.TIi1 D.TIi2 st.ti)
    · exact (sb.2 _ D.TOz).trans TO'
    · exact h1'.at fun o q => (sb.2 _ D.i1z).trans q
    · exact h2'.at fun o q => (sb.2 _ D.i2z).trans q
    · have hlt : d < s.heap.objs.size := by
        rcases (show d = z ∨ d = TI ∨ d = TO ∨ d = i1 ∨ d = i2 by simpa using hd) with q | q | q | q | q
        · rw [q]; exact zl
        · rw [q]; exact Heap.lt_size st.ti
        · rw [q]; obtain ⟨_, _, e⟩ := st.to_; exact Heap.lt_size e
        · rw [q]; obtain ⟨_, e, _⟩ := st.n1.there; exact Heap.lt_size e
        · rw [q]; obtain ⟨_, e, _⟩ := st.n2.there; exact Heap.lt_size e
      rw [upd_ne (Nat.ne_of_lt hlt)]
      exact (hf d hd).1
  done := by
    intro X hP hw hK hc i pins s σ H E I hf st hg
    subst hP hw hK
    obtain ⟨xs, ys, hqx, hqy, hend⟩ := hg
    obtain ⟨its, rv, p⟩ := hqx.at I
    obtain ⟨its2, rv2, p2⟩ := hqy.at I
    have l1 := rv.length
    have l2 := rv2.length
    have he : its.toArray[i]? = none ∨ its2.toArray[i]? = none := by
      rcases hend with q | q
      · exact .inl (by simp; omega)
      · exact .inr (by simp; omega)
    have hT0 : s.TypeIs (.ref z) "zip" := ⟨_, st.zip, rfl⟩
    unfold pyNext
    refine wpAny_bind (wpAny_attempt (wpAny_callSpecial?_slot (name := Str.ofString "__next__") hT0 F.slot_zip_next
      (wpAny_call_entry F.slot_zip_next hT0 F.entry_zip_next (zipX_end (A := X.A.in1) (I.ok.hd hc) D st p p2 he fun h' e hk hx => ?_) (F.args_zip_next_1 _))))
    obtain ⟨o, ho, hc'⟩ := hx
    refine wpAny_bind (wpAny_isInstance (T := "StopIteration") (b := true) ⟨o, ho, hc'⟩ isSubtype_stop ?_)
    exact wpAny_pure ⟨rfl, I.turnedL (t' := s.toks) (ch := [z, TI, TO, i1, i2]) (fun d o hb q =>
      hk d o (fun q' => hb (by simp [q'])) (fun q' => hb (by simp [q'])) (fun q' => hb (by simp [q'])) (fun q' => hb (by simp [q'])) q) hf⟩
  self := fun A i s Q E st h => wpAny_pyIter_zip st.zip h
def iZipX (K : PySem.W.Frag) (ta tb : TE) : TI := fun σ H R => ta σ H fun v H1 => tb σ H1 fun u H2 => ∃ (b c : Bool) (a1 a2 : Addr) (xs ys : List V), v = .ref a1 ∧ u = .ref a2 ∧ SqX b K H2 a1 xs ∧ SqX c K H2 a2 ys ∧ R (ItzX b c K a1 a2) H2
theorem pi_zipX {X : Cx} {e e2 : Expr} {ta tb : TE} {p pos tpos : Pos} {elts : List Expr} {kk : Nat} (hg : Gl X "zip") (hm : X.mg "zip" = none) (ha : PE X e ta) (hb : PE X e2 tb)
    (hs : starEach [e, e2] X.env = (false, eval e X.env) :: starEach [e2] X.env) (hs2 : starEach [e2] X.env = (false, eval e2 X.env) :: starEach [] X.env) (hpl : (backTo pos (starEach [e2] X.env)).any (·.1) = false) :
    PI X (.Tuple elts kk tpos) (.Call (.Name "zip" p) [e, e2] [] pos) (iZipX X.K ta tb) := by
  refine ⟨fun pins s σ H R I h => ?_⟩
  have arg : wpAny (model X.prog X.w) X.A (spliced (backTo pos (starEach [e, e2] X.env))) (fun us s2 => ∃ v u uv uu H2, us = [uv, uu] ∧ Inv X pins σ H2 s2 ∧ RelV v uv ∧ RelV u uu ∧
      ∃ (b c : Bool) (a1 a2 : Addr) (xs ys : List V), v = .ref a1 ∧ u = .ref a2 ∧ SqX b X.K H2 a1 xs ∧ SqX c X.K H2 a2 ys ∧ R (ItzX b c X.K a1 a2) H2) X.xe s := by
    rw [hs, hs2]
    show wpAny _ _ (spliced [(false, eval e X.env), (false, eval e2 X.env)]) _ _ s
    refine Calls.spliced_cons (thn (ha.run pins s σ H _ I h) fun v1 s1 ⟨v, H1, I1, r1, q1⟩ => ?_)
    refine Calls.spliced_cons (thn (hb.run pins s1 σ H1 _ I1 q1) fun v2 s2 ⟨u, H2, I2, r2, q2⟩ => ?_)
    exact Calls.spliced_nil ⟨v, u, v1, v2, H2, rfl, I2, r1, r2, q2⟩
  refine Call_ (ld_blt I hg hm PyProof.Rows.boot_zip (PyProof.Rows.callWith_type1 (thn arg fun us s1 z => ?_) hs hpl))
  obtain ⟨v, u, uv, uu, H1, rfl, I1, r1, r2, b, c, a1, a2, xs, ys, rfl, rfl, hqx, hqy, q⟩ := z
  cases r1
  cases r2
  obtain ⟨its, rv, p1⟩ := hqx.at I1
  obtain ⟨its2, rv2, p2⟩ := hqy.at I1
  refine call_zipX p1 p2 fun h' Z hk => wpAny_pyIter_zip Z.zip ?_
  have I2 : Inv X pins σ H1 { s1 with heap := h' } := I1.kept (t' := s1.toks) hk
  refine ⟨s1.heap.objs.size + 4, [s1.heap.objs.size + 4, s1.heap.objs.size + 2, s1.heap.objs.size + 3, s1.heap.objs.size, s1.heap.objs.size + 1], _, _, H1, rfl, I2, turn_zipX (PySem.W.ktu_apart s1.heap.objs.size a1 a2 p1.lt p2.lt), Z, fun d hd => ?_, q⟩
  have hle : s1.heap.objs.size ≤ d := by
    rcases (show d = s1.heap.objs.size + 4 ∨ d = s1.heap.objs.size + 2 ∨ d = s1.heap.objs.size + 3 ∨ d = s1.heap.objs.size ∨ d = s1.heap.objs.size + 1 by simpa using hd) with z | z | z | z | z <;> rw [z] <;> first | exact Nat.le_add_right _ _ | exact Nat.le_refl _
  exact I1.fpOk hle (I1.hok.fresh hle)
end SF

/-! Each operation's meaning is what the walk tells. -/
namespace SF
open PySem PySem.Spec PyProof.Rows L2
variable [KS]
section
variable {G : Gx} {M : MC} {k : Nat} {own : List Nat} {W : WX} {cA : Nat → Addr} {σ : L2.St} {H : Hp} {O : List Addr}
theorem post_lst {ds : List D} {xs : List V} {Q : VK} (ok : OkO H O) (z : Post W cA σ H (relD O) (.ok (.list ds)) Q) (r : RpA (hid H O) xs ds) {p : Addr} (hp : H p = none) : Q (.ref p) (upd H p (.lst xs)) :=
  z _ _ (same_upd hp) (.lst (hid_upd ok hp) (r.mono (hid_mono (same_upd hp))))
theorem post_tup {ds : List D} {xs : List V} {Q : VK} (ok : OkO H O) (z : Post W cA σ H (relD O) (.ok (.tuple ds)) Q) (r : RpA (hid H O) xs ds) {p : Addr} (hp : H p = none) : Q (.ref p) (upd H p (.tup xs)) :=
  z _ _ (same_upd hp) (.tup (hid_upd ok hp) (r.mono (hid_mono (same_upd hp))))
theorem post_out {d : D} {v : V} {Q : VK} (z : Post W cA σ H (relD O) (.ok d) Q) (r : Rp (hid H O) v d) : Q v H := z v H (Same.refl H) r
/-- the same tuple -/
theorem RpB.tup_rp {Hf : Hp} {v : V} {ds : List D} (h : RpB H Hf v (.tuple ds)) : Rp Hf v (.tuple ds) := by
  cases h with
  | all r => exact r
theorem RpB.dp {K : PySem.W.Frag} {v : V} {d : D} (h : RpB H (hid H O) v d) (s : SeqAt.shaped d = true) : Dp K H v d := (h.rp hid_sub).dp (SeqAt.canLay_of_shaped s)

/-! ### what an operation on two values tells -/
def Ref2 (G : Gx) (W : WX) (r : R2) (op : D → D → R D) : Prop := ∀ (σ : L2.St) (H : Hp) (O : List Addr) (x y : V) (da db : D) (Q : VK), OkO H O → RpB H (hid H O) x da → RpB H (hid H O) y db → Post W G.cA σ H (relD O) (op da db) Q → r x y H Q
def Ref1 (G : Gx) (W : WX) (r : V → Hp → VK → Prop) (op : D → R D) : Prop := ∀ (σ : L2.St) (H : Hp) (O : List Addr) (x : V) (da : D) (Q : VK), OkO H O → RpB H (hid H O) x da → Post W G.cA σ H (relD O) (op da) Q → r x H Q
def CmpOk (G : Gx) (M : MC) (k : Nat) (c : CmpOp) (op : D → D → R D) : Prop := ∀ X W, Good G M k W X → ∃ r : R2, OpR X (compareOp c) r ∧ ∀ W', Ref2 G W' r op
def BinOk (G : Gx) (M : MC) (k : Nat) (c : Operator) (op : D → D → R D) : Prop := ∀ X W, Good G M k W X → ∃ r : R2, OpR X (binaryOp c) r ∧ ∀ W', Ref2 G W' r op

theorem intsD_cases : ∀ xs : List D, (∃ is, intsD xs = .ok is) ∨ intsD xs = .bad
  | [] => .inl ⟨[], rfl⟩
  | .int i :: r => by
    rcases intsD_cases r with ⟨is, e⟩ | e
    · exact .inl ⟨i :: is, by simp [intsD, e]⟩
    · exact .inr (by simp [intsD, e])
  | .none :: _ => .inr rfl
  | .bool _ :: _ => .inr rfl
  | .str _ :: _ => .inr rfl
  | .list _ :: _ => .inr rfl
  | .tuple _ :: _ => .inr rfl
  | .dict _ :: _ => .inr rfl
theorem boolsD_cases : ∀ xs : List D, (∃ is, boolsD xs = .ok is) ∨ boolsD xs = .bad
  | [] => .inl ⟨[], rfl⟩
  | .bool i :: r => by
    rcases boolsD_cases r with ⟨is, e⟩ | e
    · exact .inl ⟨i :: is, by simp [boolsD, e]⟩
    · exact .inr (by simp [boolsD, e])
  | .none :: _ => .inr rfl
  | .int _ :: _ => .inr rfl
  | .str _ :: _ => .inr rfl
  | .list _ :: _ => .inr rfl
  | .tuple _ :: _ => .inr rfl
  | .dict _ :: _ => .inr rfl
theorem cmp_eq : CmpOk G M k .Eq (op2D .eq) := fun X W g => ⟨rEqD X.K, op_eqD g.room.units, fun W' σ H O x y da db Q ok hx hy z => by
  change Post W' G.cA σ H (relD O) (bl (eqD da db)) Q at z
  unfold eqD at z
  split at z
  · rename_i h
    rw [Bool.and_eq_true] at h
    exact ⟨da, db, hx.dp h.1, hy.dp h.2, h.1, h.2, post_out z (.bl _)⟩
  · exact z.elim⟩
theorem cmp_ne : CmpOk G M k .NotEq (op2D .ne) := fun X W g => ⟨rNeD X.K, op_neD g.room.units, fun W' σ H O x y da db Q ok hx hy z => by
  change Post W' G.cA σ H (relD O) (bl (do let e ← eqD da db; .ok (!e))) Q at z
  unfold eqD at z
  split at z
  · rename_i h
    rw [Bool.and_eq_true] at h
    exact ⟨da, db, hx.dp h.1, hy.dp h.2, h.1, h.2, post_out z (.bl _)⟩
  · exact z.elim⟩
theorem bad2 {β : Prop} {r : R D} {Q : VK} (h : r = .bad) (z : Post W cA σ H (relD O) r Q) : β := by
  rw [h] at z
  exact z.elim
theorem cmp_int {c : CmpOp} {op : D → D → R Bool} {p : Int → Int → Bool} (hop : ∀ a b, op a b = (match a, b with | .int i, .int j => .ok (p i j) | _, _ => .bad))
    (h : ∀ X : Cx, OpR X (compareOp c) (rI0 fun i j => .bl (p i j))) : CmpOk G M k c (fun a b => bl (op a b)) := fun X W g => ⟨_, h X, fun W' σ H O x y da db Q ok hx hy z => by
  change Post W' G.cA σ H (relD O) (bl (op da db)) Q at z
  rw [hop] at z
  split at z
  · rename_i i j
    exact ⟨i, j, hx.int, hy.int, post_out z (.bl _)⟩
  · exact z.elim⟩
theorem cmp_lt : CmpOk G M k .Lt (op2D .lt) := cmp_int (op := ltD) (fun a b => by unfold ltD; rfl) fun X => op_lt
theorem cmp_le : CmpOk G M k .LtE (op2D .le) := cmp_int (op := leD) (fun a b => by unfold leD; rfl) fun X => op_le
theorem cmp_gt : CmpOk G M k .Gt (op2D .gt) := cmp_int (op := fun a b => ltD b a) (p := fun i j => decide (j < i)) (fun a b => by
  cases a <;> cases b <;> rfl) fun X => op_gt
/-- >= of two tuples of ints -/
def rGeT (K : PySem.W.Frag) : R2 := fun x y H Q => ∃ (a b : Addr) (ns ms : List Int), x = .ref a ∧ y = .ref b ∧ SqT K H a (ns.map V.int) ∧ SqT K H b (ms.map V.int) ∧ Q (.bl (lexLe ms ns)) H
theorem op_geT {X : Cx} (hu : X.A.units < cLine) : OpR X (compareOp .GtE) (rGeT X.K) := by
  intro pins s σ H x y v u Q I rx ry h
  obtain ⟨a, b, ns, ms, rfl, rfl, ha, hb, q⟩ := h
  cases rx
  cases ry
  obtain ⟨its, r1, p1, _⟩ := I.tuple ha
  obtain ⟨its2, r2, p2, _⟩ := I.tuple hb
  have i1 : IntsAre its ns := Vals.ints r1
  have i2 : IntsAre its2 ms := Vals.ints r2
  have e1 : its.toArray.size = ns.length := by rw [List.size_toArray]; exact i1.length
  have e2 : its2.toArray.size = ms.length := by rw [List.size_toArray]; exact i2.length
  have at1 : ∀ j (h1 : j < its.toArray.size), ∃ t, its.toArray[j] = .int (ns.getD j 0) t := fun j h1 => PyProof.Rows.IntsAre.int_at i1 _ _ (by simp at h1; simp [h1])
  have at2 : ∀ j (h1 : j < its2.toArray.size), ∃ t, its2.toArray[j] = .int (ms.getD j 0) t := fun j h1 => PyProof.Rows.IntsAre.int_at i2 _ _ (by simp at h1; simp [h1])
  have R := Ob.RcOp.tuples_ge (A := X.A) (s := s) (e := fun j => decide (ms.getD j 0 = ns.getD j 0)) (r := fun j => decide (ms.getD j 0 ≤ ns.getD j 0)) p1 p2 hu (fun j h1 h2 => by
    obtain ⟨t, et⟩ := at1 j h1
    obtain ⟨t', et'⟩ := at2 j h2
    rw [et, et']
    have z : (ns.getD j 0 == ms.getD j 0) = decide (ms.getD j 0 = ns.getD j 0) := by
      by_cases q : ms.getD j 0 = ns.getD j 0
      · rw [decide_eq_true q, q]; exact beq_iff_eq.mpr rfl
      · rw [decide_eq_false q]; exact beq_eq_false_iff_ne.mpr fun e => q e.symm
    rw [← z]
    exact SeqAt.EqAt.int_int _ _ _ _) (fun j h1 h2 _ => by
    obtain ⟨t, et⟩ := at1 j h1
    obtain ⟨t', et'⟩ := at2 j h2
    rw [et, et']
    exact Ob.RcOp.ge_int _ _ _ _)
  rw [e1, e2, show (decide (ns.length ≥ ms.length)) = decide (ms.length ≤ ns.length) from rfl, Nat.min_comm] at R
  rw [lexAt_le ms ns (fun a b => decide (a ≤ b)) (fun a b => decide (a ≤ b)) (fun a b h => by
    by_cases q : a < b
    · rw [decide_eq_true q, decide_eq_true (Int.le_of_lt q)]
    · rw [decide_eq_false q, decide_eq_false]; omega) (fun _ _ => rfl) _ 0 (by omega)] at R
  have z : wpAny (model X.prog X.w) X.A (compareOp .GtE (.ref a) (.ref b)) (EP X pins σ Q) X.xe s := R X.prog X.w X.xe (EP X pins σ Q) ⟨.bl _, H, I, rfl, q⟩
  exact z
theorem sq_t {K : PySem.W.Frag} {a : Addr} {xs : List V} (h : H a = some (.tup xs)) : SqT K H a xs := .inl (.inl h)
theorem sq_l {K : PySem.W.Frag} {a : Addr} {xs : List V} (h : H a = some (.lst xs)) : SqL K H a xs := .inl (.inl h)
theorem cmp_ge : CmpOk G M k .GtE (op2D .ge) := fun X W g => ⟨_, op_ge.or (op_geT g.room.units0), fun W' σ H O x y da db Q ok hx hy z => by
  change Post W' G.cA σ H (relD O) (bl (geD da db)) Q at z
  unfold geD at z
  split at z
  · rename_i i j
    exact .inl ⟨i, j, hx.int, hy.int, post_out z (.bl _)⟩
  · rename_i as bs
    obtain ⟨a, xs, rfl, ha, ra⟩ := hx.tuple hid_sub
    obtain ⟨b, ys, rfl, hb, rb⟩ := hy.tuple hid_sub
    rcases intsD_cases as with ⟨is, e1⟩ | e1
    · rcases intsD_cases bs with ⟨js, e2⟩ | e2
      · rw [e1, e2] at z
        obtain ⟨rfl, _⟩ := ra.ints e1
        obtain ⟨rfl, _⟩ := rb.ints e2
        exact .inr ⟨a, b, is, js, rfl, rfl, sq_t ha, sq_t hb, post_out z (.bl _)⟩
      · rw [e1, e2] at z; exact z.elim
    · rw [e1] at z; exact z.elim
  · exact z.elim⟩
end
section
variable {G : Gx} {M : MC} {k : Nat} {own : List Nat} {W : WX} {cA : Nat → Addr} {σ : L2.St} {H : Hp} {O : List Addr}
theorem units65 {k : Nat} {A : Around} (r : Room k A) : A.units + 65 < cLine := by have := r.un; omega
theorem cmp_in : CmpOk G M k .In (op2D .isin) := fun X W g => ⟨_, (op_inD (units65 g.room)).or (op_inDT (units65 g.room)), fun W' σ H O x y da db Q ok hx hy z => by
  change Post W' G.cA σ H (relD O) (bl (inD da db)) Q at z
  unfold inD at z
  split at z
  · rename_i xs
    split at z
    · rename_i h
      rw [Bool.and_eq_true] at h
      exact .inl ⟨da, xs, hx.dp h.1, hy.dp h.2, h.1, h.2, post_out z (.bl _)⟩
    · exact z.elim
  · rename_i xs
    split at z
    · rename_i h
      rw [Bool.and_eq_true] at h
      exact .inr ⟨da, xs, hx.dp h.1, hy.dp h.2, h.1, h.2, post_out z (.bl _)⟩
    · exact z.elim
  · exact z.elim⟩
theorem cmp_notin : CmpOk G M k .NotIn (op2D .notin) := fun X W g => ⟨_, (op_notInD (units65 g.room)).or (op_notInDT (units65 g.room)), fun W' σ H O x y da db Q ok hx hy z => by
  change Post W' G.cA σ H (relD O) (bl (do let e ← inD da db; .ok (!e))) Q at z
  unfold inD at z
  split at z
  · rename_i xs
    split at z
    · rename_i h
      rw [Bool.and_eq_true] at h
      exact .inl ⟨da, xs, hx.dp h.1, hy.dp h.2, h.1, h.2, post_out z (.bl _)⟩
    · exact z.elim
  · rename_i xs
    split at z
    · rename_i h
      rw [Bool.and_eq_true] at h
      exact .inr ⟨da, xs, hx.dp h.1, hy.dp h.2, h.1, h.2, post_out z (.bl _)⟩
    · exact z.elim
  · exact z.elim⟩
theorem isNone_of {Hf : Hp} {v : V} {d : D} (h : RpB H Hf v d) : decide (v = .non) = isNoneD d := by
  cases h with
  | all r => cases r <;> rfl
  | lst e r => rfl
theorem cmp_is : CmpOk G M k .Is (op2D .is_) := fun X W g => ⟨_, op_isN, fun W' σ H O x y da db Q ok hx hy z => by
  change Post W' G.cA σ H (relD O) (bl (isD da db)) Q at z
  cases db with
  | none => exact ⟨hy.none, by rw [isNone_of hx]; exact post_out z (.bl _)⟩
  | _ => exact z.elim⟩
theorem cmp_isNot : CmpOk G M k .IsNot (op2D .isNot) := fun X W g => ⟨_, op_notN, fun W' σ H O x y da db Q ok hx hy z => by
  change Post W' G.cA σ H (relD O) (bl (do let e ← isD da db; .ok (!e))) Q at z
  cases db with
  | none => exact ⟨hy.none, by rw [isNone_of hx]; exact post_out z (.bl _)⟩
  | _ => exact z.elim⟩

/-! ### + - * // % -/
theorem line_le {n : Nat} (h : n ≤ 1000000) : n ≤ sizeLine := by rw [sizeLine_eq]; omega
theorem bin_add : BinOk G M k .Add (op2D .add) := fun X W g => ⟨_, op_add.or (op_add_str.or (op_cat.or op_catA)), fun W' σ H O x y da db Q ok hx hy z => by
  change Post W' G.cA σ H (relD O) (addD da db) Q at z
  unfold addD at z
  split at z
  · rename_i i j
    exact .inl ⟨i, j, hx.int, hy.int, post_out z (.int _)⟩
  · rename_i i j
    split at z
    · rename_i h
      exact .inr (.inl ⟨i, j, hx.str, hy.str, line_le h, post_out z (.str _)⟩)
    · exact z.elim
  · rename_i as bs
    split at z
    · rename_i h
      obtain ⟨a, xs, rfl, ha, ra⟩ := hx.list hid_sub
      obtain ⟨b, ys, rfl, hb, rb⟩ := hy.list hid_sub
      exact .inr (.inr (.inl ⟨a, b, xs, ys, rfl, rfl, ha, hb, line_le (by rw [ra.length, rb.length]; exact h), fun p hp => post_lst ok z (ra.append rb) hp⟩))
    · exact z.elim
  · rename_i as bs
    split at z
    · rename_i h
      obtain ⟨a, xs, rfl, ha, ra⟩ := hx.tuple hid_sub
      obtain ⟨b, ys, rfl, hb, rb⟩ := hy.tuple hid_sub
      refine .inr (.inr (.inr ⟨a, b, xs, ys, rfl, rfl, sq_t ha, sq_t hb, line_le (by rw [ra.length, rb.length]; exact h), fun e => ?_, fun _ e => ?_, fun _ _ p hp => post_tup ok z (ra.append rb) hp⟩))
      · subst e
        cases ra
        exact post_out z hy.tup_rp
      · subst e
        cases rb
        rw [List.append_nil] at z
        exact post_out z hx.tup_rp
    · exact z.elim
  · exact z.elim⟩
theorem bin_sub : BinOk G M k .Sub (op2D .sub) := fun X W g => ⟨_, op_sub, fun W' σ H O x y da db Q ok hx hy z => by
  cases da <;> cases db <;> first | exact z.elim | exact ⟨_, _, hx.int, hy.int, post_out z (.int _)⟩⟩
theorem rep_nil {α : Type} : ∀ n : Nat, (List.replicate n ([] : List α)).flatten = []
  | 0 => rfl
  | n + 1 => by rw [List.replicate_succ, List.flatten_cons, List.nil_append, rep_nil n]
theorem rep_of {K : PySem.W.Frag} {as : List D} {j : Int} {Q : VK} {a : Addr} {xs : List V} {y : V} (ok : OkO H O) (z : Post W cA σ H (relD O) (.ok (.tuple (repL as j))) Q) (hx : RpB H (hid H O) (.ref a) (.tuple as)) (ha : H a = some (.tup xs))
    (ra : RpA (hid H O) xs as) (hy : y = .int j) (h1 : j ≤ 1000) (h2 : -1000000 < j) (h3 : xs.length ≤ 1000) : rRepA K (.ref a) y H Q := by
  refine ⟨a, j, xs, rfl, hy, sq_t ha, h1, h2, h3, fun e => ?_, fun _ e p hp => ?_, fun _ _ p hp => post_tup ok z (ra.rep _) hp⟩
  · refine post_out (d := .tuple (repL as j)) z ?_
    have e2 : repL as j = as := by
      rcases e with e | e
      · subst e
        cases ra
        exact rep_nil _
      · subst e
        show (List.replicate 1 as).flatten = as
        simp
    rw [e2]
    exact hx.tup_rp
  · have e2 : repL as j = [] := by
      unfold repL
      rw [show j.toNat = 0 by omega]
      rfl
    rw [e2] at z
    exact post_tup ok z .nil hp
theorem bin_mul : BinOk G M k .Mult (op2D .mul) := fun X W g => ⟨_, op_mul.or (op_rep.or op_repA), fun W' σ H O x y da db Q ok hx hy z => by
  change Post W' G.cA σ H (relD O) (mulD da db) Q at z
  unfold mulD at z
  split at z
  · rename_i i j
    split at z
    · rename_i h
      refine .inl ⟨i, j, hx.int, hy.int, ?_, post_out z (.int _)⟩
      rw [Bool.or_eq_true] at h
      unfold SF.small64 at h
      simp only [Bool.and_eq_true, decide_eq_true_eq] at h
      rcases h with h | h
      · exact .inl ⟨by omega, by omega⟩
      · exact .inr ⟨by omega, by omega⟩
    · exact z.elim
  · rename_i as j
    split at z
    · rename_i h
      simp only [Bool.and_eq_true, decide_eq_true_eq] at h
      obtain ⟨⟨h1, h2⟩, h3⟩ := h
      obtain ⟨a, xs, rfl, ha, ra⟩ := hx.list hid_sub
      refine .inr (.inl ⟨a, j, xs, rfl, hy.int, ha, by omega, by omega, line_le ?_, fun p hp => post_lst ok z (ra.rep _) hp⟩)
      rw [ra.length]
      exact Nat.le_trans (Nat.mul_le_mul h3 (show j.toNat ≤ 1000 by omega)) (by decide)
    · exact z.elim
  · rename_i as j
    split at z
    · rename_i h
      simp only [Bool.and_eq_true, decide_eq_true_eq] at h
      obtain ⟨⟨h1, h2⟩, h3⟩ := h
      obtain ⟨a, xs, rfl, ha, ra⟩ := hx.tuple hid_sub
      have hlen := ra.length
      exact .inr (.inr (rep_of (Q := Q) ok z hx ha ra hy.int h1 h2 (by omega)))
    · exact z.elim
  · exact z.elim⟩
theorem bin_fdiv : BinOk G M k .FloorDiv (op2D .fdiv) := fun X W g => ⟨_, op_fdiv, fun W' σ H O x y da db Q ok hx hy z => by
  cases da with
  | int i =>
    cases db with
    | int j =>
      change Post W' G.cA σ H (relD O) (if decide (0 < j) && decide (j < 1073741824) then .ok (.int (i / j)) else .bad) Q at z
      split at z
      · rename_i h
        simp only [Bool.and_eq_true, decide_eq_true_eq] at h
        exact ⟨i, j, hx.int, hy.int, h, post_out z (.int _)⟩
      · exact z.elim
    | _ => exact z.elim
  | _ => exact z.elim⟩
theorem bin_mod : BinOk G M k .Mod (op2D .mod) := fun X W g => ⟨_, op_mod, fun W' σ H O x y da db Q ok hx hy z => by
  cases da with
  | int i =>
    cases db with
    | int j =>
      change Post W' G.cA σ H (relD O) (if 0 < j then .ok (.int (i % j)) else .bad) Q at z
      split at z
      · rename_i h
        exact ⟨i, j, hx.int, hy.int, h, post_out z (.int _)⟩
      · exact z.elim
    | _ => exact z.elim
  | _ => exact z.elim⟩
end
section
variable {G : Gx} {M : MC} {k : Nat} {own : List Nat} {W : WX} {cA : Nat → Addr} {σ : L2.St} {H : Hp} {O : List Addr}
/-! ### a[b], a[b:c] -/
theorem place_ix (n : Nat) (i : Int) : ixN n i = placeD n i := rfl
theorem at_of {Hf : Hp} {vs : List V} {ds : List D} {i : Int} {d : D} (r : RpA Hf vs ds) (h : idxL ds i = .ok d) : ∃ v, atI vs i = some v ∧ Rp Hf v d := by
  unfold idxL at h
  cases e : (placeD ds.length i).bind fun j => ds[j]? with
  | none => rw [e] at h; cases h
  | some d' =>
    rw [e] at h
    cases h
    cases e2 : placeD ds.length i with
    | none => rw [e2] at e; cases e
    | some j =>
      rw [e2] at e
      obtain ⟨v, h1, h2⟩ := r.get (show ds[j]? = some d from e)
      refine ⟨v, ?_, h2⟩
      unfold atI
      rw [place_ix, r.length, e2]
      exact h1
theorem idxL_ex {ds : List D} {i : Int} : (∃ d, idxL ds i = .ok d) ∨ idxL ds i = .bad := by
  unfold idxL
  cases (placeD ds.length i).bind fun j => ds[j]? with
  | none => exact .inr rfl
  | some d => exact .inl ⟨d, rfl⟩
theorem ref_idx {K : PySem.W.Frag} : Ref2 G W (fun x y H Q => rIxL K x y H Q ∨ rIxT K x y H Q) (op2D .idx) := fun σ H O x y da db Q ok hx hy z => by
  cases da with
  | list xs =>
    cases db with
    | int i =>
      change Post W G.cA σ H (relD O) (idxL xs i) Q at z
      obtain ⟨a, vs, rfl, ha, ra⟩ := hx.list hid_sub
      rcases idxL_ex (ds := xs) (i := i) with ⟨d, e⟩ | e
      · obtain ⟨v, h1, h2⟩ := at_of ra e
        rw [e] at z
        exact .inl ⟨a, vs, i, v, rfl, hy.int, sq_l ha, h1, post_out z h2⟩
      · rw [e] at z; exact z.elim
    | _ => exact z.elim
  | tuple xs =>
    cases db with
    | int i =>
      change Post W G.cA σ H (relD O) (idxL xs i) Q at z
      obtain ⟨a, vs, rfl, ha, ra⟩ := hx.tuple hid_sub
      rcases idxL_ex (ds := xs) (i := i) with ⟨d, e⟩ | e
      · obtain ⟨v, h1, h2⟩ := at_of ra e
        rw [e] at z
        exact .inr ⟨a, vs, i, v, rfl, hy.int, sq_t ha, h1, post_out z h2⟩
      · rw [e] at z; exact z.elim
    | _ => exact z.elim
  | _ => exact z.elim
def ixOk : Expr → Bool
  | .Name .. => true
  | .Constant .. => true
  | .Call .. => true
  | .BinOp .. => true
  | .UnaryOp .. => true
  | .Subscript .. => true
  | _ => false
theorem plainIx {b : Expr} (h : ixOk b = true) : PlainIx b := by
  cases b <;> first | (exact fun _ _ => rfl) | cases h
theorem sIx_cut {α : Type} (xs : List α) (d : Nat) (v : Int) : HT.sIx xs.length d (some v) = cutIx xs.length v := rfl
theorem toL_of {α : Type} (xs : List α) (v : Int) : (xs.drop (HT.sIx xs.length 0 none)).take (HT.sIx xs.length xs.length (some v) - HT.sIx xs.length 0 none) = toL xs v := by
  rw [HT.sIx_none, sIx_cut]
  show (xs.drop 0).take (cutIx xs.length v - 0) = xs.take (cutIx xs.length v)
  rw [List.drop_zero, Nat.sub_zero]
theorem fromL_of {α : Type} (xs : List α) (v : Int) : (xs.drop (HT.sIx xs.length 0 (some v))).take (HT.sIx xs.length xs.length none - HT.sIx xs.length 0 (some v)) = fromL xs v := by
  rw [HT.sIx_none, sIx_cut]
  show (xs.drop (cutIx xs.length v)).take (xs.length - cutIx xs.length v) = xs.drop (cutIx xs.length v)
  exact List.take_of_length_le (by rw [List.length_drop]; exact Nat.le_refl _)
/-- a slice's meaning: cutD lo hi -/
def cutD {α : Type} (xs : List α) (lo hi : Option Int) : List α := (xs.drop (HT.sIx xs.length 0 lo)).take (HT.sIx xs.length xs.length hi - HT.sIx xs.length 0 lo)
def sliceD (d : D) (lo hi : Option Int) : R D := match d with
  | .list xs => .ok (.list (cutD xs lo hi))
  | .tuple xs => .ok (.tuple (cutD xs lo hi))
  | _ => .bad
theorem to_slice (a : D) (i : Int) : op2D .to a (.int i) = sliceD a none (some i) := by
  cases a with
  | list xs => exact congrArg (fun z => R.ok (PyData.list z)) (toL_of xs i).symm
  | tuple xs => exact congrArg (fun z => R.ok (PyData.tuple z)) (toL_of xs i).symm
  | _ => rfl
theorem from_slice (a : D) (i : Int) : op2D .from_ a (.int i) = sliceD a (some i) none := by
  cases a with
  | list xs => exact congrArg (fun z => R.ok (PyData.list z)) (fromL_of xs i).symm
  | tuple xs => exact congrArg (fun z => R.ok (PyData.tuple z)) (fromL_of xs i).symm
  | _ => rfl
theorem slice_slice (a : D) (i j : Int) : sliceO a i (.int j) = sliceD a (some i) (some j) := by
  cases a <;> rfl
theorem RpA.cut {Hf : Hp} {vs : List V} {ds : List D} (r : RpA Hf vs ds) (lo hi : Option Int) : RpA Hf (cutV vs lo hi) (cutD ds lo hi) := by
  unfold cutV cutD
  rw [r.length]
  exact (r.drop _).take _
theorem cut_all {α : Type} {xs : List α} {lo hi : Option Int} (h : HT.sIx xs.length 0 lo = 0 ∧ HT.sIx xs.length xs.length hi = xs.length) : cutD xs lo hi = xs := by
  unfold cutD
  rw [h.1, h.2, List.drop_zero, Nat.sub_zero]
  exact List.take_length
theorem ref_slice {K : PySem.W.Frag} {x : V} {da : D} {lo hi : Option Int} {Q : VK} (ok : OkO H O) (hx : RpB H (hid H O) x da) (z : Post W cA σ H (relD O) (sliceD da lo hi) Q) : rSlL K x lo hi H Q ∨ rSlA K x lo hi H Q := by
  cases da with
  | list xs =>
    obtain ⟨a, vs, rfl, ha, ra⟩ := hx.list hid_sub
    exact .inl ⟨a, vs, rfl, sq_l ha, fun p hp => post_lst ok z (ra.cut lo hi) hp⟩
  | tuple xs =>
    obtain ⟨a, vs, rfl, ha, ra⟩ := hx.tuple hid_sub
    refine .inr ⟨a, vs, rfl, sq_t ha, fun h => ?_, fun _ p hp => post_tup ok z (ra.cut lo hi) hp⟩
    rw [ra.length] at h
    have e := cut_all h
    change Post W cA σ H (relD O) (.ok (.tuple (cutD xs lo hi))) Q at z
    rw [e] at z
    exact post_out z hx.tup_rp
  | _ => exact z.elim

/-! ### calls of one thing -/
theorem seq_of {K : PySem.W.Frag} {x : V} {da : D} (hx : RpB H (hid H O) x da) : (∃ ds, da = .list ds) → ∃ p ys, x = .ref p ∧ SqL K H p ys := fun ⟨ds, e⟩ => by
  subst e
  obtain ⟨a, vs, rfl, ha, ra⟩ := hx.list hid_sub
  exact ⟨a, vs, rfl, sq_l ha⟩
theorem ref_neg : Ref1 G W (rU fun i => .int (-i)) (op1D .neg) := fun σ H O x da Q ok hx z => by
  cases da with
  | int i => exact ⟨i, hx.int, post_out z (.int _)⟩
  | _ => exact z.elim
theorem ref_len {K : PySem.W.Frag} : Ref1 G W (fun x H Q => ∃ p ys, [x] = [V.ref p] ∧ (SqL K H p ys ∨ SqT K H p ys) ∧ Q (.int ys.length) H) (op1D .len) := fun σ H O x da Q ok hx z => by
  cases da with
  | list xs =>
    obtain ⟨a, vs, rfl, ha, ra⟩ := hx.list hid_sub
    refine ⟨a, vs, rfl, .inl (sq_l ha), ?_⟩
    rw [ra.length]
    exact post_out z (.int _)
  | tuple xs =>
    obtain ⟨a, vs, rfl, ha, ra⟩ := hx.tuple hid_sub
    refine ⟨a, vs, rfl, .inr (sq_t ha), ?_⟩
    rw [ra.length]
    exact post_out z (.int _)
  | _ => exact z.elim
theorem ref_tuple {K : PySem.W.Frag} : Ref1 G W (fun x H Q => ∃ p ys, [x] = [V.ref p] ∧ ((SqL K H p ys ∧ ∀ l, H l = none → Q (.ref l) (upd H l (.tup ys))) ∨ (SqT K H p ys ∧ Q (.ref p) H))) (op1D .tupleOf) := fun σ H O x da Q ok hx z => by
  cases da with
  | list xs =>
    obtain ⟨a, vs, rfl, ha, ra⟩ := hx.list hid_sub
    exact ⟨a, vs, rfl, .inl ⟨sq_l ha, fun l hl => post_tup ok z ra hl⟩⟩
  | tuple xs =>
    have hr := hx.tup_rp
    obtain ⟨a, vs, rfl, ha, ra⟩ := hx.tuple hid_sub
    exact ⟨a, vs, rfl, .inr ⟨sq_t ha, post_out z hr⟩⟩
  | _ => exact z.elim
theorem ref_list {K : PySem.W.Frag} : Ref1 G W (fun x H Q => ∃ p ys, [x] = [V.ref p] ∧ (SqL K H p ys ∨ SqT K H p ys) ∧ ∀ l, H l = none → Q (.ref l) (upd H l (.lst ys))) (op1D .listOf) := fun σ H O x da Q ok hx z => by
  cases da with
  | list xs =>
    obtain ⟨a, vs, rfl, ha, ra⟩ := hx.list hid_sub
    exact ⟨a, vs, rfl, .inl (sq_l ha), fun l hl => post_lst ok z ra hl⟩
  | tuple xs =>
    obtain ⟨a, vs, rfl, ha, ra⟩ := hx.tuple hid_sub
    exact ⟨a, vs, rfl, .inr (sq_t ha), fun l hl => post_lst ok z ra hl⟩
  | _ => exact z.elim
theorem ref_sum {K : PySem.W.Frag} : Ref1 G W (fun x H Q => rSum K [x] H Q ∨ ∃ (a : Addr) (ns : List Int), [x] = [V.ref a] ∧ SqT K H a (ns.map V.int) ∧ Q (.int ns.sum) H) (op1D .sum) := fun σ H O x da Q ok hx z => by
  cases da with
  | list xs =>
    obtain ⟨a, vs, rfl, ha, ra⟩ := hx.list hid_sub
    change Post W G.cA σ H (relD O) (do let is ← intsD xs; .ok (.int is.sum)) Q at z
    rcases intsD_cases xs with ⟨is, e⟩ | e
    · rw [e] at z
      obtain ⟨rfl, _⟩ := ra.ints e
      exact .inl ⟨a, is, rfl, sq_l ha, post_out z (.int _)⟩
    · rw [e] at z; exact z.elim
  | tuple xs =>
    obtain ⟨a, vs, rfl, ha, ra⟩ := hx.tuple hid_sub
    change Post W G.cA σ H (relD O) (do let is ← intsD xs; .ok (.int is.sum)) Q at z
    rcases intsD_cases xs with ⟨is, e⟩ | e
    · rw [e] at z
      obtain ⟨rfl, _⟩ := ra.ints e
      exact .inr ⟨a, is, rfl, sq_t ha, post_out z (.int _)⟩
    · rw [e] at z; exact z.elim
  | _ => exact z.elim
theorem ref_any {K : PySem.W.Frag} : Ref1 G W (fun x => rAny K [x]) (op1D .any) := fun σ H O x da Q ok hx z => by
  cases da with
  | list xs =>
    obtain ⟨a, vs, rfl, ha, ra⟩ := hx.list hid_sub
    change Post W G.cA σ H (relD O) (do let is ← boolsD xs; .ok (.bool (is.any id))) Q at z
    rcases boolsD_cases xs with ⟨is, e⟩ | e
    · rw [e] at z
      have h := ra.bools e
      subst h
      exact ⟨a, is, rfl, sq_l ha, post_out z (.bl _)⟩
    · rw [e] at z; exact z.elim
  | _ => exact z.elim
theorem ref_all {K : PySem.W.Frag} : Ref1 G W (fun x => rAll K [x]) (op1D .all) := fun σ H O x da Q ok hx z => by
  cases da with
  | list xs =>
    obtain ⟨a, vs, rfl, ha, ra⟩ := hx.list hid_sub
    change Post W G.cA σ H (relD O) (do let is ← boolsD xs; .ok (.bool (is.all id))) Q at z
    rcases boolsD_cases xs with ⟨is, e⟩ | e
    · rw [e] at z
      have h := ra.bools e
      subst h
      exact ⟨a, is, rfl, sq_l ha, post_out z (.bl _)⟩
    · rw [e] at z; exact z.elim
  | _ => exact z.elim
theorem ref_int : Ref1 G W (fun x H Q => (∃ i, [x] = [V.int i] ∧ Q (.int i) H) ∨ ∃ k, [x] = [V.bl k] ∧ Q (.int (if k then 1 else 0)) H) (op1D .intOf) := fun σ H O x da Q ok hx z => by
  cases da with
  | int i => exact .inl ⟨i, by rw [hx.int], post_out z (.int _)⟩
  | bool b => exact .inr ⟨b, by rw [hx.bool], post_out z (.int _)⟩
  | _ => exact z.elim
theorem ref_abs : Ref1 G W (fun x H Q => ∃ i, [x] = [V.int i] ∧ Q (.int (if i < 0 then -i else i)) H) (op1D .abs) := fun σ H O x da Q ok hx z => by
  cases da with
  | int i => exact ⟨i, by rw [hx.int], post_out z (.int _)⟩
  | _ => exact z.elim
theorem log2_small {n : Nat} (h : n < 1000000) : n.log2 < 1920 := by
  by_cases h0 : n = 0
  · subst h0
    decide
  · refine (Nat.log2_lt h0).mpr ?_
    have : (2 : Nat) ^ 20 ≤ 2 ^ 1920 := Nat.pow_le_pow_right (by decide) (by decide)
    have : (2 : Nat) ^ 20 = 1048576 := by decide
    omega
theorem ref_str : Ref1 G W (fun x H Q => ∃ i, [x] = [V.int i] ∧ i.natAbs.log2 < 1920 ∧ Q (.str (toString i)) H) (op1D .strOf) := fun σ H O x da Q ok hx z => by
  cases da with
  | int i =>
    change Post W G.cA σ H (relD O) (if i.natAbs < 1000000 then .ok (.str (toString i)) else .bad) Q at z
    split at z
    · rename_i h
      exact ⟨i, by rw [hx.int], log2_small h, post_out z (.str _)⟩
    · exact z.elim
  | _ => exact z.elim
theorem ref_rev {K : PySem.W.Frag} : Ref1 G W (rRev K) (op1D .rev) := fun σ H O x da Q ok hx z => by
  cases da with
  | list xs =>
    obtain ⟨a, vs, rfl, ha, ra⟩ := hx.list hid_sub
    exact ⟨a, vs, rfl, .inl ⟨sq_l ha, fun p hp => post_lst ok z ra.reverse hp⟩⟩
  | tuple xs =>
    obtain ⟨a, vs, rfl, ha, ra⟩ := hx.tuple hid_sub
    exact ⟨a, vs, rfl, .inr ⟨sq_t ha, fun p hp => post_tup ok z ra.reverse hp⟩⟩
  | _ => exact z.elim
/-! ### isinstance -/
def tyN : Ty → String
  | .int => "int" | .bool => "bool" | .tuple => "tuple" | .list => "list"
def tyOfD : D → Option String
  | .none => some "NoneType"
  | .bool _ => some "bool"
  | .int _ => some "int"
  | .str _ => some "str"
  | .list _ => some "list"
  | .tuple _ => some "tuple"
  | .dict _ => none
theorem ty_of {K : PySem.W.Frag} {x : V} {d : D} {T : String} (hx : RpB H (hid H O) x d) (h : tyOfD d = some T) : TyX K H x (.type T) := by
  have r := hx.rp hid_sub
  cases r with
  | non => cases h; exact .base .non
  | bl b => cases h; exact .base (.bl b)
  | int b => cases h; exact .base (.int b)
  | str b => cases h; exact .base (.str b)
  | lst e r => cases h; exact .base (.lst e)
  | tup e r => cases h; exact .base (.tup e)
  | scr e => cases h
  | scrK e => cases h
theorem isTy_kit (t : Ty) (d : D) (T : String) (h : tyOfD d = some T) : ∃ b, isTy t d = .ok b ∧ kitB T (tyN t) = some b := by
  cases d <;> cases h <;> cases t <;> first
    | exact ⟨true, rfl, by decide +kernel⟩
    | exact ⟨false, rfl, by decide +kernel⟩
theorem ref_isi {K : PySem.W.Frag} (t : Ty) : Ref1 G W (fun x => rIsi K [x, .ty (tyN t)]) (op1D (.isInst t)) := fun σ H O x da Q ok hx z => by
  change Post W G.cA σ H (relD O) (do let b ← isTy t da; .ok (.bool b)) Q at z
  cases e : tyOfD da with
  | none =>
    cases da <;> cases e
    cases t <;> exact z.elim
  | some T =>
    obtain ⟨b, h1, h2⟩ := isTy_kit t da T e
    rw [h1] at z
    exact ⟨x, _, _, _, b, rfl, .ty _, ty_of hx e, kit_ty h2, post_out z (.bl _)⟩

/-! ### min, max -/
theorem ref_min2 : Ref2 G W (fun x y H Q => ∃ i j, [x, y] = [V.int i, V.int j] ∧ Q (.int (if j < i then j else i)) H) (op2D .min2) := fun σ H O x y da db Q ok hx hy z => by
  cases da with
  | int i =>
    cases db with
    | int j => exact ⟨i, j, by rw [hx.int, hy.int], post_out z (.int _)⟩
    | _ => exact z.elim
  | _ => exact z.elim
theorem ref_max2 : Ref2 G W (fun x y H Q => ∃ i j, [x, y] = [V.int i, V.int j] ∧ Q (.int (if j > i then j else i)) H) (op2D .max2) := fun σ H O x y da db Q ok hx hy z => by
  cases da with
  | int i =>
    cases db with
    | int j => exact ⟨i, j, by rw [hx.int, hy.int], post_out z (.int _)⟩
    | _ => exact z.elim
  | _ => exact z.elim

/-! ### xs.index(d) -/
theorem find_of : ∀ {ds : List D} {d : D} {n j : Nat}, findEq d n ds = some j → n ≤ j ∧ ∃ z, ds[j - n]? = some z ∧ PyData.eqv z d = true ∧ ∀ (m : Nat) (z' : D), m < j - n → ds[m]? = some z' → PyData.eqv z' d = false
  | [], _, _, _, h => by cases h
  | x :: r, d, n, j, h => by
    unfold findEq at h
    by_cases c : PyData.eqv x d = true
    · rw [if_pos c] at h
      cases h
      refine ⟨Nat.le_refl _, x, by simp, c, fun m z' hm => by omega⟩
    · rw [if_neg c] at h
      obtain ⟨h1, z, h2, h3, h4⟩ := find_of h
      refine ⟨by omega, z, ?_, h3, fun m z' hm e => ?_⟩
      · rw [show j - n = (j - (n + 1)) + 1 by omega, List.getElem?_cons_succ]
        exact h2
      · cases m with
        | zero =>
          cases e
          simpa using c
        | succ m => exact h4 m z' (by omega) (by simpa using e)
theorem ref_index {K : PySem.W.Frag} {x y : V} {xs : List D} {db : D} {Q : VK} (hx : RpB H (hid H O) x (.list xs)) (hy : RpB H (hid H O) y db) (z : Post W cA σ H (relD O) (indexD xs db) Q) : rIndexD K x [y] H Q := by
  unfold indexD at z
  split at z
  · rename_i h
    rw [Bool.and_eq_true] at h
    cases e : findEq db 0 xs with
    | none => rw [e] at z; exact z.elim
    | some j =>
      rw [e] at z
      obtain ⟨_, zz, h2, h3, h4⟩ := find_of e
      have hd : Dp K H x (.list xs) := hx.dp h.2
      obtain ⟨a, vs, rfl, ha, ra⟩ := hx.list hid_sub
      exact ⟨a, y, db, xs, j, zz, rfl, rfl, hd, hy.dp h.1, h.2, h.1, by simpa using h2, h3, by simpa using h4, post_out z (.int _)⟩
  · exact z.elim
end
end SF

namespace SF
open PySem PySem.Spec PyProof.Rows L2
variable [KS]
/-! ### order of lists of ints -/
theorem lexLe_refl : ∀ x : List Int, lexLe x x = true
  | [] => rfl
  | a :: x => by
    unfold lexLe
    rw [if_pos rfl]
    exact lexLe_refl x
theorem lexLe_total : ∀ x y : List Int, lexLe x y = true ∨ lexLe y x = true
  | [], _ => .inl rfl
  | _ :: _, [] => .inr rfl
  | a :: x, b :: y => by
    unfold lexLe
    by_cases h : a = b
    · subst h
      rw [if_pos rfl, if_pos rfl]
      exact lexLe_total x y
    · rw [if_neg h, if_neg fun e => h e.symm, decide_eq_true_eq, decide_eq_true_eq]
      omega
theorem lexLe_trans : ∀ {x y z : List Int}, lexLe x y = true → lexLe y z = true → lexLe x z = true
  | [], _, _, _, _ => rfl
  | _ :: _, [], _, h, _ => by cases h
  | _ :: _, _ :: _, [], _, h => by cases h
  | a :: x, b :: y, c :: z, h1, h2 => by
    unfold lexLe at h1 h2 ⊢
    by_cases e1 : a = b
    · subst e1
      rw [if_pos rfl] at h1
      by_cases e2 : a = c
      · subst e2
        rw [if_pos rfl] at h2 ⊢
        exact lexLe_trans h1 h2
      · rw [if_neg e2] at h2 ⊢
        exact h2
    · rw [if_neg e1, decide_eq_true_eq] at h1
      by_cases e2 : b = c
      · subst e2
        rw [if_neg e1, decide_eq_true_eq]
        exact h1
      · rw [if_neg e2, decide_eq_true_eq] at h2
        rw [if_neg (by omega), decide_eq_true_eq]
        omega
theorem lexLe_anti : ∀ {x y : List Int}, lexLe x y = true → lexLe y x = true → x = y
  | [], [], _, _ => rfl
  | [], _ :: _, _, h => by cases h
  | _ :: _, [], h, _ => by cases h
  | a :: x, b :: y, h1, h2 => by
    unfold lexLe at h1 h2
    by_cases e : a = b
    · subst e
      rw [if_pos rfl] at h1 h2
      rw [lexLe_anti h1 h2]
    · rw [if_neg e, decide_eq_true_eq] at h1
      rw [if_neg fun z => e z.symm, decide_eq_true_eq] at h2
      omega
theorem insL_perm (x : List Int) : ∀ l, (insL lexLe x l).Perm (x :: l)
  | [] => .refl _
  | y :: r => by
    unfold insL
    split
    · exact .refl _
    · exact ((insL_perm x r).cons y).trans (.swap x y r)
theorem sortL_perm : ∀ l, (sortL l).Perm l
  | [] => .refl _
  | x :: r => (insL_perm x (sortL r)).trans ((sortL_perm r).cons x)
abbrev LeL (x y : List Int) : Prop := lexLe x y = true
theorem insL_sorted (x : List Int) : ∀ {l}, l.Pairwise LeL → (insL lexLe x l).Pairwise LeL
  | [], _ => by simp [insL]
  | y :: r, h => by
    unfold insL
    obtain ⟨h1, h2⟩ := List.pairwise_cons.mp h
    split
    · rename_i c
      refine List.pairwise_cons.mpr ⟨fun z hz => ?_, h⟩
      rcases List.mem_cons.mp hz with rfl | hz
      · exact c
      · exact lexLe_trans c (h1 z hz)
    · rename_i c
      refine List.pairwise_cons.mpr ⟨fun z hz => ?_, insL_sorted x h2⟩
      rcases List.mem_cons.mp ((insL_perm x r).mem_iff.mp hz) with rfl | hz
      · exact (lexLe_total z y).resolve_left c
      · exact h1 z hz
theorem sortL_sorted : ∀ l, (sortL l).Pairwise LeL
  | [] => .nil
  | x :: r => insL_sorted x (sortL_sorted r)
theorem sorted_one : ∀ {l m : List (List Int)}, l.Perm m → l.Pairwise LeL → m.Pairwise LeL → l = m
  | [], m, h, _, _ => (List.nil_perm.mp h).symm
  | x :: l, [], h, _, _ => by simpa using h.length_eq
  | x :: l, y :: m, h, h1, h2 => by
    obtain ⟨a1, a2⟩ := List.pairwise_cons.mp h1
    obtain ⟨b1, b2⟩ := List.pairwise_cons.mp h2
    have e : x = y := by
      have hx : x ∈ y :: m := h.mem_iff.mp List.mem_cons_self
      have hy : y ∈ x :: l := h.mem_iff.mpr List.mem_cons_self
      rcases List.mem_cons.mp hx with e | hx
      · exact e
      · rcases List.mem_cons.mp hy with e | hy
        · exact e.symm
        · exact lexLe_anti (a1 y hy) (b1 x hx)
    subst e
    rw [sorted_one (List.perm_cons x |>.mp h) a2 b2]
theorem dedupL_mem {α : Type} [DecidableEq α] : ∀ {l : List α} {x : α}, x ∈ dedupL l ↔ x ∈ l
  | [], _ => .rfl
  | y :: r, x => by
    unfold dedupL
    split
    · rename_i h
      rw [dedupL_mem, List.mem_cons]
      exact ⟨.inr, fun e => e.elim (fun e => e ▸ h) id⟩
    · rw [List.mem_cons, List.mem_cons, dedupL_mem]
theorem dedupL_nodup {α : Type} [DecidableEq α] : ∀ l : List α, (dedupL l).Nodup
  | [] => .nil
  | y :: r => by
    unfold dedupL
    split
    · exact dedupL_nodup r
    · rename_i h
      exact List.nodup_cons.mpr ⟨fun m => h (dedupL_mem.mp m), dedupL_nodup r⟩
theorem perm_of_mem {α : Type} [DecidableEq α] : ∀ {l m : List α}, l.Nodup → m.Nodup → (∀ x, x ∈ l ↔ x ∈ m) → l.Perm m
  | [], m, _, _, h => by
    cases m with
    | nil => exact .refl _
    | cons y m => exact absurd ((h y).mpr List.mem_cons_self) (by simp)
  | x :: l, m, h1, h2, h => by
    obtain ⟨a1, a2⟩ := List.nodup_cons.mp h1
    have hx : x ∈ m := (h x).mp List.mem_cons_self
    have p := List.perm_cons_erase hx
    obtain ⟨b1, b2⟩ := List.nodup_cons.mp (p.nodup_iff.mp h2)
    refine ((perm_of_mem a2 b2 fun y => ?_).cons x).trans p.symm
    have hy := h y
    rw [p.mem_iff, List.mem_cons, List.mem_cons] at hy
    constructor
    · intro m
      rcases hy.mp (.inr m) with e | m'
      · exact absurd (e ▸ m) a1
      · exact m'
    · intro m
      rcases hy.mpr (.inr m) with e | m'
      · exact absurd (e ▸ m) b1
      · exact m'
/-- the code tells the order -/
theorem code_bd {B : Int} (hB : 0 < B) : ∀ {x : List Int}, TS.Bd B x → 0 ≤ TS.code B x ∧ TS.code B x < B ^ x.length
  | [], _ => ⟨Int.le_refl _, by simp [TS.code]⟩
  | d :: r, h => by
    obtain ⟨h1, h2⟩ := code_bd hB h.tail
    have := TS.num1 h1 h2 h.head.1 h.head.2
    show 0 ≤ d * B ^ r.length + TS.code B r ∧ d * B ^ r.length + TS.code B r < B ^ (r.length + 1)
    rw [Int.pow_succ]
    exact this
theorem code_le {B : Int} (hB : 0 < B) : ∀ {x y : List Int}, x.length = y.length → TS.Bd B x → TS.Bd B y → TS.code B x ≤ TS.code B y → lexLe x y = true
  | [], _, _, _, _, _ => rfl
  | _ :: _, [], h, _, _, _ => by cases h
  | a :: x, b :: y, hl, hx, hy, h => by
    have hl' : x.length = y.length := by simpa using hl
    have c1 := code_bd hB hx.tail
    have c2 := code_bd hB hy.tail
    change a * B ^ x.length + TS.code B x ≤ b * B ^ y.length + TS.code B y at h
    rw [hl'] at h c1
    unfold lexLe
    by_cases e : a = b
    · subst e
      rw [if_pos rfl]
      exact code_le hB hl' hx.tail hy.tail (by omega)
    · rw [if_neg e, decide_eq_true_eq]
      rcases Int.lt_trichotomy a b with q | q | q
      · exact q
      · exact absurd q e
      · have p : (b + 1) * B ^ y.length ≤ a * B ^ y.length := Int.mul_le_mul_of_nonneg_right (by omega) (by omega)
        rw [Int.add_mul, Int.one_mul] at p
        omega
/-! ### rows of tuples -/
theorem RpA.perm {H : Hp} {vs ws : List V} (h : vs.Perm ws) : ∀ {ds : List D}, RpA H vs ds → ∃ es, es.Perm ds ∧ RpA H ws es := by
  induction h with
  | nil => intro ds r; exact ⟨ds, .refl _, r⟩
  | cons x _ ih =>
    intro ds r
    cases r with
    | cons r t =>
      obtain ⟨es, p, q⟩ := ih t
      exact ⟨_ :: es, p.cons _, .cons r q⟩
  | swap x y l =>
    intro ds r
    cases r with
    | cons r t =>
      cases t with
      | cons r2 t2 => exact ⟨_, .swap _ _ _, .cons r2 (.cons r t2)⟩
  | trans _ _ ih1 ih2 =>
    intro ds r
    obtain ⟨es, p, q⟩ := ih1 r
    obtain ⟨fs, p2, q2⟩ := ih2 q
    exact ⟨fs, p2.trans p, q2⟩
theorem tupsD_cases : ∀ xs : List D, (∃ ts, tupsD xs = .ok ts ∧ xs = ts.map tupD) ∨ ∀ ts, tupsD xs ≠ .ok ts
  | [] => .inl ⟨[], rfl, rfl⟩
  | .tuple xs :: r => by
    rcases intsD_cases xs with ⟨is, e⟩ | e
    · rcases tupsD_cases r with ⟨ts, e2, e3⟩ | e2
      · refine .inl ⟨is :: ts, by simp [tupsD, e, e2], ?_⟩
        have e4 : xs = is.map .int := by
          clear e2 e3
          induction xs generalizing is with
          | nil => cases e; rfl
          | cons d xs ih =>
            cases d with
            | int i =>
              rcases intsD_cases xs with ⟨js, ej⟩ | ej
              · rw [show intsD (.int i :: xs) = .ok (i :: js) by simp [intsD, ej]] at e
                cases e
                rw [ih js ej]
                rfl
              · rw [show intsD (.int i :: xs) = .bad by simp [intsD, ej]] at e
                cases e
            | _ => cases e
        rw [e4, e3]
        rfl
      · refine .inr fun ts h => ?_
        cases e3 : tupsD r with
        | ok ts' => exact e2 ts' e3
        | ex c => simp [tupsD, e, e3] at h
        | bad => simp [tupsD, e, e3] at h
    · exact .inr fun ts h => by simp [tupsD, e] at h
  | .none :: _ => .inr fun _ h => by cases h
  | .bool _ :: _ => .inr fun _ h => by cases h
  | .int _ :: _ => .inr fun _ h => by cases h
  | .str _ :: _ => .inr fun _ h => by cases h
  | .list _ :: _ => .inr fun _ h => by cases h
  | .dict _ :: _ => .inr fun _ h => by cases h
/-! ### sorted ints -/
theorem insI_perm (x : Int) : ∀ l, (insI x l).Perm (x :: l)
  | [] => .refl _
  | y :: r => by
    unfold insI
    split
    · exact .refl _
    · exact ((insI_perm x r).cons y).trans (.swap x y r)
theorem sortI_perm : ∀ l, (sortI l).Perm l
  | [] => .refl _
  | x :: r => (insI_perm x (sortI r)).trans ((sortI_perm r).cons x)
theorem insI_sorted (x : Int) : ∀ {l : List Int}, l.Pairwise (· ≤ ·) → (insI x l).Pairwise (· ≤ ·)
  | [], _ => by simp [insI]
  | y :: r, h => by
    unfold insI
    obtain ⟨h1, h2⟩ := List.pairwise_cons.mp h
    split
    · rename_i c
      refine List.pairwise_cons.mpr ⟨fun z hz => ?_, h⟩
      rcases List.mem_cons.mp hz with rfl | hz
      · exact c
      · exact Int.le_trans c (h1 z hz)
    · rename_i c
      refine List.pairwise_cons.mpr ⟨fun z hz => ?_, insI_sorted x h2⟩
      rcases List.mem_cons.mp ((insI_perm x r).mem_iff.mp hz) with rfl | hz
      · omega
      · exact h1 z hz
theorem sortI_sorted : ∀ l, (sortI l).Pairwise (· ≤ ·)
  | [] => .nil
  | x :: r => insI_sorted x (sortI_sorted r)
theorem sortI_one {l m : List Int} (p : l.Perm m) (h : l.Pairwise (· ≤ ·)) : l = sortI m :=
  List.Perm.eq_of_pairwise (le := fun a b => a ≤ b) (fun a b _ _ h1 h2 => Int.le_antisymm h1 h2) h (sortI_sorted m) (p.trans (sortI_perm m).symm)
section
variable {G : Gx} {M : MC} {k : Nat} {own : List Nat} {W : WX} {cA : Nat → Addr} {σ : L2.St} {H : Hp} {O : List Addr} {X : Cx}
def rSortedA (K : PySem.W.Frag) : List V → Hp → VK → Prop := fun vs H Q => rSorted K vs H Q ∨ ∃ d, 1 ≤ d ∧ rSortU K d 64 vs H Q
theorem cr_sortedA : CallR X (.builtin "sorted") (rSortedA X.K) := by
  intro pins s σ H vs us Q I r h
  rcases h with h | ⟨d, hd, h⟩
  · exact cr_sorted pins s σ H vs us Q I r h
  · exact cr_sortT hd pins s σ H vs us Q I r h
theorem okTups_of {ts : List (List Int)} (h : (okTups ((ts.headD []).length) ts || ts.isEmpty) = true) : ∃ d, 1 ≤ d ∧ ts.length < 64 ∧ ∀ x ∈ ts, x.length = d ∧ TS.Bd 64 x := by
  rw [Bool.or_eq_true] at h
  rcases h with h | h
  · unfold okTups at h
    simp only [Bool.and_eq_true, decide_eq_true_eq, List.all_eq_true] at h
    obtain ⟨⟨h1, h2⟩, h3⟩ := h
    refine ⟨_, h1, h2, fun x hx => ⟨(h3 x hx).1, fun m hm => (h3 x hx).2 m hm⟩⟩
  · rw [List.isEmpty_iff] at h
    subst h
    exact ⟨1, Nat.le_refl _, by decide, fun x hx => by cases hx⟩
theorem RpA.tupAt {Hf : Hp} {vs : List V} {ts : List (List Int)} (r : RpA Hf vs (ts.map tupD)) : ∀ x ∈ vs, ∃ t ns, x = .ref t ∧ ns ∈ ts ∧ Hf t = some (.tup (ns.map V.int)) := by
  induction ts generalizing vs with
  | nil => cases r; intro x hx; cases hx
  | cons n ts ih =>
    cases r with
    | cons r t =>
      intro x hx
      rcases List.mem_cons.mp hx with rfl | hx
      · cases r with
        | tup e q =>
          have e2 : intsD (n.map PyData.int) = .ok n := by
            clear q
            induction n with
            | nil => rfl
            | cons a b ih => simp [intsD, ih]
          obtain ⟨rfl, _⟩ := q.ints e2
          exact ⟨_, n, rfl, List.mem_cons_self, e⟩
      · obtain ⟨t', ns, h1, h2, h3⟩ := ih t x hx
        exact ⟨t', ns, h1, List.mem_cons_of_mem _ h2, h3⟩
def untup : D → List Int
  | .tuple xs => (match intsD xs with
    | .ok is => is
    | _ => [])
  | _ => []
theorem ints_map (n : List Int) : intsD (n.map PyData.int) = .ok n := by
  induction n with
  | nil => rfl
  | cons a b ih => simp [intsD, ih]
theorem untup_tup (n : List Int) : untup (tupD n) = n := by
  unfold untup tupD
  dsimp only
  rw [ints_map]
theorem map_untup {ts : List (List Int)} : ∀ {es : List D}, (∀ e ∈ es, e ∈ ts.map tupD) → es = (es.map untup).map tupD
  | [], _ => rfl
  | e :: es, h => by
    obtain ⟨n, _, hn⟩ := List.mem_map.mp (h e List.mem_cons_self)
    rw [List.map_cons, List.map_cons, ← map_untup fun x hx => h x (List.mem_cons_of_mem _ hx), ← hn, untup_tup]
theorem RpA.tupMem {Hf : Hp} {vs : List V} {ts : List (List Int)} (r : RpA Hf vs (ts.map tupD)) : ∀ n ∈ ts, ∃ t, V.ref t ∈ vs ∧ Hf t = some (.tup (n.map V.int)) := by
  induction ts generalizing vs with
  | nil => intro n h; cases h
  | cons m ts ih =>
    cases r with
    | cons r t =>
      intro n hn
      rcases List.mem_cons.mp hn with rfl | hn
      · cases r with
        | tup e q =>
          obtain ⟨rfl, _⟩ := q.ints (ints_map n)
          exact ⟨_, List.mem_cons_self, e⟩
      · obtain ⟨a, h1, h2⟩ := ih t n hn
        exact ⟨a, List.mem_cons_of_mem _ h1, h2⟩
def CodeLe (Hf : Hp) (x y : V) : Prop := ∀ n m t u, x = .ref t → y = .ref u → Hf t = some (.tup (n.map V.int)) → Hf u = some (.tup (m.map V.int)) → TS.code 64 n ≤ TS.code 64 m
theorem pw_codes {Hf : Hp} {d : Nat} : ∀ {us : List (List Int)} {ys : List V}, RpA Hf ys (us.map tupD) → (∀ x ∈ us, x.length = d ∧ TS.Bd 64 x) → ys.Pairwise (CodeLe Hf) → us.Pairwise LeL
  | [], _, _, _, _ => .nil
  | u :: us, _, .cons r t, hd, hp => by
    obtain ⟨h1, h2⟩ := List.pairwise_cons.mp hp
    refine List.pairwise_cons.mpr ⟨fun w hw => ?_, pw_codes t (fun x hx => hd x (List.mem_cons_of_mem _ hx)) h2⟩
    cases r with
    | tup e q =>
      obtain ⟨rfl, _⟩ := q.ints (ints_map u)
      obtain ⟨b, hb, eb⟩ := RpA.tupMem t w hw
      obtain ⟨l1, b1⟩ := hd u List.mem_cons_self
      obtain ⟨l2, b2⟩ := hd w (List.mem_cons_of_mem _ hw)
      exact code_le (by decide) (l1.trans l2.symm) b1 b2 (h1 _ hb u w _ _ rfl rfl e eb)
/-- a row that is sorted by the code is the sorted row -/
theorem rows_sorted {Hf : Hp} {vs ys : List V} {ts : List (List Int)} {d : Nat} (hd : ∀ x ∈ ts, x.length = d ∧ TS.Bd 64 x) (r : RpA Hf vs (ts.map tupD)) (p : ys.Perm vs) (hs : ys.Pairwise (CodeLe Hf)) : RpA Hf ys ((sortL ts).map tupD) := by
  obtain ⟨es, p2, r2⟩ := r.perm p.symm
  have he := map_untup (ts := ts) fun e hm => p2.mem_iff.mp hm
  generalize hg : es.map untup = us at he
  subst he
  have p3 : us.Perm ts := by
    have := p2.map untup
    rw [List.map_map, List.map_map] at this
    have e : (untup ∘ tupD) = id := funext fun n => untup_tup n
    rw [e, List.map_id, List.map_id] at this
    exact this
  have hso : us.Pairwise LeL := pw_codes r2 (fun x hx => hd x (p3.mem_iff.mp hx)) hs
  rw [← sorted_one (p3.trans (sortL_perm ts).symm) hso (sortL_sorted ts)]
  exact r2
theorem ref_sorted {K : PySem.W.Frag} : Ref1 G W (fun x => rSortedA K [x]) (op1D .sorted) := fun σ H O x da Q ok hx z => by
  cases da with
  | list xs =>
    change Post W G.cA σ H (relD O) (sortedD xs) Q at z
    obtain ⟨a, vs, rfl, ha, ra⟩ := hx.list hid_sub
    unfold sortedD at z
    rcases tupsD_cases xs with ⟨ts, e, rfl⟩ | e
    · rw [e] at z
      dsimp only at z
      split at z
      · rename_i h
        obtain ⟨d, h1, h2, h3⟩ := okTups_of h
        have hl := ra.length
        rw [List.length_map] at hl
        refine .inr ⟨d, h1, a, vs, rfl, sq_l ha, by omega, fun x hx => ?_, fun ys p hp hs hn => ?_⟩
        · obtain ⟨t, ns, rfl, hns, ht⟩ := ra.tupAt x hx
          exact ⟨ns, ⟨t, rfl, sq_t (hid_sub _ _ ht)⟩, h3 ns hns⟩
        · refine post_lst ok z (rows_sorted h3 ra hp (hs.imp fun {x y} hxy n m t u ex ey et eu => ?_)) hn
          exact hxy n m ⟨t, ex, sq_t (hid_sub _ _ et)⟩ ⟨u, ey, sq_t (hid_sub _ _ eu)⟩
      · exact z.elim
    · have z : Post W G.cA σ H (relD O) (match intsD xs with | .ok is => if is.length < 64 then .ok (.list ((sortI is).map .int)) else .bad | _ => .bad) Q := by
        split at z
        · rename_i ts h
          exact absurd h (e ts)
        · exact z
      rcases intsD_cases xs with ⟨is, e1⟩ | e1
      · rw [e1] at z
        dsimp only at z
        split at z
        · rename_i hlt
          obtain ⟨rfl, _⟩ := ra.ints e1
          refine .inl ⟨a, is, rfl, sq_l ha, hlt, fun ns' p hp hs hn => ?_⟩
          rw [sortI_one hp hs]
          exact post_lst ok z (RpA.ofInts _) hn
        · exact z.elim
      · rw [e1] at z
        exact z.elim
  | _ => exact z.elim

/-! ### sorted(set(xs)) of tuples -/
def rSortSet (X : Cx) : V → Hp → VK → Prop := fun x H Q => rSetOfT X.K X.prog X.w [x] H fun y H1 => rSortedT X.K X.prog X.w [y] H1 Q
theorem pe_sortSet {a : Expr} {ta : TE} {p p2 q pos : Pos} (hc : X.calm = true) (hu : X.A.units + 64 < cLine) (hg : Gl X (Str.ofString "sorted")) (hm : X.mg (Str.ofString "sorted") = none) (hg2 : Gl X (Str.ofString "set")) (hm2 : X.mg (Str.ofString "set") = none) (ha : PE X a ta)
    (na : notStar a = true) : PE X (.Call (.Name (Str.ofString "sorted") p) [.Call (.Name (Str.ofString "set") p2) [a] [] q] [] pos) (tUn (rSortSet X) ta) := by
  have h := pe_callB (p := p) (pos := pos) (cr_sortedT (X := X) hc) hg hm (by decide +kernel) (pa_cons (pe_callTy (p := p2) (pos := q) (cr_setOfT (X := X) hc hu) hg2 hm2 PyProof.Rows.boot_set (pa_cons ha pa_nil (star_cons na _ _)) (by decide) (by decide) (star_cons na _ _) rfl) pa_nil) (by decide) (by decide) rfl rfl
  exact h
/-- the tuples' places -/
theorem RpA.places {Hf : Hp} : ∀ {ts : List (List Int)} {vs : List V}, RpA Hf vs (ts.map tupD) → ∃ ks : List (Addr × List Int), vs = ks.map (fun p => V.ref p.1) ∧ ks.map (·.2) = ts ∧ ∀ p ∈ ks, Hf p.1 = some (.tup (p.2.map V.int))
  | [], _, .nil => ⟨[], rfl, rfl, fun p h => by cases h⟩
  | n :: ts, _, .cons r t => by
    obtain ⟨ks, h1, h2, h3⟩ := RpA.places t
    cases r with
    | tup e q =>
      obtain ⟨rfl, _⟩ := q.ints (ints_map n)
      refine ⟨(_, n) :: ks, by rw [List.map_cons, ← h1], by rw [List.map_cons, h2], fun p hp => ?_⟩
      rcases List.mem_cons.mp hp with rfl | hp
      · exact e
      · exact h3 p hp
theorem RpA.ofPlaces {Hf : Hp} : ∀ {ks : List (Addr × List Int)}, (∀ p ∈ ks, Hf p.1 = some (.tup (p.2.map V.int))) → RpA Hf (ks.map fun p => V.ref p.1) ((ks.map (·.2)).map tupD)
  | [], _ => .nil
  | p :: ks, h => .cons (.tup (h p List.mem_cons_self) (RpA.ofInts _)) (RpA.ofPlaces fun q hq => h q (List.mem_cons_of_mem _ hq))
theorem ref_sortSet : Ref1 G W (rSortSet X) (op1D .sortedSet) := fun σ H O x da Q ok hx z => by
  cases da with
  | list xs =>
    change Post W G.cA σ H (relD O) (sortedSetD xs) Q at z
    obtain ⟨a, vs, rfl, ha, ra⟩ := hx.list hid_sub
    unfold sortedSetD at z
    rcases tupsD_cases xs with ⟨ts, e, rfl⟩ | e
    · rw [e] at z
      dsimp only at z
      split at z
      · rename_i h
        obtain ⟨d, h1, h2, h3⟩ := okTups_of h
        obtain ⟨ks, rfl, rfl, hk⟩ := ra.places
        rw [List.length_map] at h2
        refine ⟨a, ks, rfl, sq_l ha, fun p hp => sq_t (hid_sub _ _ (hk p hp)), h2, fun b L hb hL hall => ?_⟩
        have s1 : Same H (upd H b (SetTO X.prog X.w b L)) := same_upd hb
        have hkL : ∀ p ∈ L, hid (upd H b (SetTO X.prog X.w b L)) O p.1 = some (.tup (p.2.map V.int)) := fun p hp => hid_mono s1 _ _ (hk p (hL p hp))
        refine ⟨b, L, d, 64, rfl, upd_same, fun p hp => sq_t (hid_sub _ _ (hkL p hp)), h1, fun p hp => h3 _ (List.mem_map.mpr ⟨p, hL p hp, rfl⟩), fun L' p hp hnd hlen hs hn => ?_⟩
        have hkL' : ∀ p ∈ L', hid (upd H b (SetTO X.prog X.w b L)) O p.1 = some (.tup (p.2.map V.int)) := fun q hq => hkL q (hp.mem_iff.mp hq)
        have hr := RpA.ofPlaces hkL'
        have ev : L'.map (·.2) = sortL (dedupL (ks.map (·.2))) := by
          refine sorted_one ?_ ?_ (sortL_sorted _)
          · refine List.Perm.trans ?_ (sortL_perm _).symm
            refine perm_of_mem hnd (dedupL_nodup _) fun y => ?_
            rw [dedupL_mem]
            constructor
            · intro hy
              obtain ⟨q, hq, rfl⟩ := List.mem_map.mp hy
              exact List.mem_map.mpr ⟨q, hL q (hp.mem_iff.mp hq), rfl⟩
            · intro hy
              obtain ⟨q, hq, rfl⟩ := List.mem_map.mp hy
              obtain ⟨q', hq', e'⟩ := List.mem_map.mp (hall q hq)
              exact List.mem_map.mpr ⟨q', hp.mem_iff.mpr hq', e'⟩
          · rw [List.pairwise_map]
            have hb' : ∀ q ∈ L', q.2.length = d ∧ TS.Bd 64 q.2 := fun q hq => h3 _ (List.mem_map.mpr ⟨q, hL q (hp.mem_iff.mp hq), rfl⟩)
            refine List.Pairwise.imp_of_mem (fun {q r} hq hr hqr => ?_) hs
            exact code_le (by decide) ((hb' q hq).1.trans (hb' r hr).1.symm) (hb' q hq).2 (hb' r hr).2 hqr
        rw [ev] at hr
        exact post_lst (ok.mono s1) (z.mono s1) hr hn
      · exact z.elim
    · split at z
      · rename_i ts h
        exact absurd h (e ts)
      · exact z.elim
  | _ => exact z.elim

/-! ### len(set(xs)) of ints -/
theorem step_nodup {l : List Int} {k : Int} (h : l.Nodup) : (step_dedup l k).Nodup := by
  unfold step_dedup
  split
  · exact h
  · rename_i c
    refine (List.perm_append_comm (l₁ := l) (l₂ := [k])).nodup_iff.mpr (List.nodup_cons.mpr ⟨fun m => c ?_, h⟩)
    exact List.any_eq_true.mpr ⟨k, m, beq_self_eq_true k⟩
theorem step_mem {l : List Int} {k x : Int} : x ∈ step_dedup l k ↔ x ∈ l ∨ x = k := by
  unfold step_dedup
  split
  · rename_i c
    obtain ⟨y, hy, e⟩ := List.any_eq_true.mp c
    have e := eq_of_beq e
    subst e
    exact ⟨.inl, fun h => h.elim id fun e => e ▸ hy⟩
  · rw [List.mem_append, List.mem_singleton]
theorem firstMet_len (ns : List Int) : (PyProof.Rows.firstMet (fun i => ns.getD i 0) ns.length).length = (dedupL ns).length := by
  have key : ∀ i, i ≤ ns.length → (PyProof.Rows.firstMet (fun i => ns.getD i 0) i).Nodup ∧ ∀ x, x ∈ PyProof.Rows.firstMet (fun i => ns.getD i 0) i ↔ x ∈ ns.take i := fun i => by
    induction i with
    | zero => intro _; exact ⟨by rw [PyProof.Rows.firstMet_zero]; exact .nil, fun x => by rw [PyProof.Rows.firstMet_zero, List.take_zero]⟩
    | succ i ih =>
      intro hi
      obtain ⟨h1, h2⟩ := ih (by omega)
      have hlt : i < ns.length := hi
      have e : ns.getD i 0 = ns[i] := by rw [List.getD_eq_getElem?_getD, List.getElem?_eq_getElem hlt]; rfl
      rw [PyProof.Rows.firstMet_succ, e]
      refine ⟨step_nodup h1, fun x => ?_⟩
      rw [step_mem, h2, List.take_add_one, List.getElem?_eq_getElem hlt, List.mem_append]
      simp
  obtain ⟨h1, h2⟩ := key ns.length (Nat.le_refl _)
  refine (perm_of_mem h1 (dedupL_nodup ns) fun x => ?_).length_eq
  rw [h2, List.take_length, dedupL_mem]
def tLenSetA (K : PySem.W.Frag) : V → Hp → VK → Prop := fun x H Q => ∃ (l : Addr) (ns : List Int), x = V.ref l ∧ (SqL K H l (ns.map V.int) ∨ SqT K H l (ns.map V.int)) ∧ ns.length < 64 ∧ Q (.int (dedupL ns).length) H
theorem pe_lenSetA {a : Expr} {ta : TE} {p p2 q pos : Pos} (hc : X.calm = true) (hg : Gl X (Str.ofString "len")) (hm : X.mg (Str.ofString "len") = none) (hg2 : Gl X (Str.ofString "set")) (hm2 : X.mg (Str.ofString "set") = none) (ha : PE X a ta)
    (hn : notStar a = true) : PE X (.Call (.Name (Str.ofString "len") p) [.Call (.Name (Str.ofString "set") p2) [a] [] q] [] pos) (tUn (tLenSetA X.K) ta) := by
  have na := star_cons hn [] X.env
  refine ⟨fun pins s σ H Q I h => ?_⟩
  refine Call_ (ld_blt I hg hm PySem.boot_len ?_)
  refine PyProof.Rows.callWith_builtin1 (PyProof.Rows.args_cons ?_ rfl) rfl rfl
  refine Call_ (ld_blt I hg2 hm2 PyProof.Rows.boot_set ?_)
  refine PyProof.Rows.callWith_type1 (PyProof.Rows.args_cons (thn (ha.run pins s σ H _ I h) fun v s1 ⟨x, H1, I1, r1, q1⟩ => PyProof.Rows.args_nil ?_) na) na rfl
  obtain ⟨l, ns, rfl, hq, h1, q1⟩ := q1
  cases r1
  rcases hq with hq | hq
  · obtain ⟨its, r, pl, hz⟩ := I1.list hq
    have hl : its.toArray.size = ns.length := by rw [List.size_toArray, ← r.length, List.length_map]
    refine call_set_list (I1.ok.hd hc) pl.isList (ns := ns) (by simpa using r.ints) (by unfold scanBound; omega) fun h' tk hS hk => ?_
    rw [hl, firstMet_len] at hS
    refine PyProof.Rows.args_nil ?_
    obtain ⟨o, es, ep, t, ho, hex, hd, _, _, _, hf, hn⟩ := hS
    have I2 : Inv X pins σ H1 { s1 with heap := h', toks := tk } := I1.kept fun b o e => hk b o (Heap.lt_size e) e
    have hle : (dedupL ns).length ≤ ns.length := by rw [← firstMet_len]; exact PyProof.Rows.firstMet_length_le _ _
    refine call_len_set ho hex hd hf (by rw [hn] <;> omega) ⟨.int (dedupL ns).length, H1, I2.tok _, ⟨_, by rw [hn]⟩, q1⟩
  · obtain ⟨its, r, pl, hz⟩ := I1.tuple hq
    refine call_set_tupI ns (I1.ok.hd hc) (show s1.heap.IsTuple l its.toArray from pl) (by simpa using r.ints) (by unfold scanBound; omega) fun h' tk c R hc hk => ?_
    refine PyProof.Rows.args_nil ?_
    obtain ⟨o, es, ep, t, ho, hex, hd, hg, hnd, hS, hsz, hf, hn, _⟩ := R
    have I2 : Inv X pins σ H1 { s1 with heap := h', toks := tk } := I1.kept fun b o e => hk b o e
    have hcn : c = (dedupL ns).length := by
      rw [← hn, ← Array.length_toList, ← List.length_map]
      refine (perm_of_mem hnd (dedupL_nodup ns) fun x => ?_).length_eq
      rw [← hS, dedupL_mem]
      simp
    refine call_len_set ho hex hd hf (by rw [hn] <;> omega) ⟨.int (dedupL ns).length, H1, I2.tok _, ⟨_, by rw [hn, hcn]⟩, q1⟩
theorem ref_lenSet {K : PySem.W.Frag} : Ref1 G W (tLenSetA K) (op1D .lenSet) := fun σ H O x da Q ok hx z => by
  have main : ∀ (xs : List D) (a : Addr) (vs : List V), (SqL K H a vs ∨ SqT K H a vs) → RpA (hid H O) vs xs → Post W G.cA σ H (relD O) (lenSetD xs) Q → tLenSetA K (.ref a) H Q := fun xs a vs hs ra z => by
    unfold lenSetD at z
    rcases intsD_cases xs with ⟨is, e⟩ | e
    · rw [e] at z
      dsimp only at z
      split at z
      · rename_i hlt
        obtain ⟨rfl, _⟩ := ra.ints e
        exact ⟨a, is, rfl, hs, hlt, post_out z (.int _)⟩
      · exact z.elim
    · rw [e] at z
      exact z.elim
  cases da with
  | list xs =>
    obtain ⟨a, vs, rfl, ha, ra⟩ := hx.list hid_sub
    exact main xs a vs (.inl (sq_l ha)) ra z
  | tuple xs =>
    obtain ⟨a, vs, rfl, ha, ra⟩ := hx.tuple hid_sub
    exact main xs a vs (.inr (sq_t ha)) ra z
  | _ => exact z.elim
end
end SF

/-! Expressions: the matcher, and what a match is good for. -/
namespace SF
open PySem PySem.Spec PyProof.Rows L2
variable [KS]
/-! ### calls of what the module has not: built-ins -/
theorem blt_in {G : Gx} {M : MC} {k : Nat} {W : WX} {X : Cx} (g : Good G M k W X) {s : String} (h : s ∈ bnames := by decide) : X.mg (Str.ofString s) = none := g.blt s h
def call1 (M : MC) (s : String) : Expr → Option Expr
  | .Call (.Name f _) [a] [] _ => if gl M s f && notStar a then some a else none
  | _ => none
theorem call1_of {M : MC} {s : String} {x a : Expr} (h : call1 M s x = some a) : ∃ p pos, x = .Call (.Name (Str.ofString s) p) [a] [] pos ∧ notStar a = true ∧ gl M s (Str.ofString s) = true := by
  unfold call1 at h
  split at h
  · rename_i f p b pos
    split at h
    · rename_i c
      cases h
      rw [Bool.and_eq_true] at c
      have e : f = Str.ofString s := by
        have c1 := c.1
        unfold gl at c1
        rw [Bool.and_eq_true, decide_eq_true_eq] at c1
        exact c1.1
      subst e
      exact ⟨p, pos, rfl, c.2, c.1⟩
    · cases h
  · cases h
def call2 (M : MC) (s : String) : Expr → Option (Expr × Expr)
  | .Call (.Name f _) [a, b] [] _ => if gl M s f && notStar a && notStar b then some (a, b) else none
  | _ => none
theorem call2_of {M : MC} {s : String} {x a b : Expr} (h : call2 M s x = some (a, b)) : ∃ p pos, x = .Call (.Name (Str.ofString s) p) [a, b] [] pos ∧ notStar a = true ∧ notStar b = true ∧ gl M s (Str.ofString s) = true := by
  unfold call2 at h
  split at h
  · rename_i f p a' b' pos
    split at h
    · rename_i c
      cases h
      rw [Bool.and_eq_true, Bool.and_eq_true] at c
      have e : f = Str.ofString s := by
        have c1 := c.1.1
        unfold gl at c1
        rw [Bool.and_eq_true, decide_eq_true_eq] at c1
        exact c1.1
      subst e
      exact ⟨p, pos, rfl, c.1.2, c.2, c.1.1⟩
    · cases h
  · cases h
def call3 (M : MC) (s : String) : Expr → Option (Expr × Expr × Expr)
  | .Call (.Name f _) [a, b, c] [] _ => if gl M s f && notStar a && notStar b && notStar c then some (a, b, c) else none
  | _ => none
theorem call3_of {M : MC} {s : String} {x a b d : Expr} (h : call3 M s x = some (a, b, d)) : ∃ p pos, x = .Call (.Name (Str.ofString s) p) [a, b, d] [] pos ∧ notStar a = true ∧ notStar b = true ∧ notStar d = true ∧ gl M s (Str.ofString s) = true := by
  unfold call3 at h
  split at h
  · rename_i f p a' b' d' pos
    split at h
    · rename_i c
      cases h
      rw [Bool.and_eq_true, Bool.and_eq_true, Bool.and_eq_true] at c
      have e : f = Str.ofString s := by
        have c1 := c.1.1.1
        unfold gl at c1
        rw [Bool.and_eq_true, decide_eq_true_eq] at c1
        exact c1.1
      subst e
      exact ⟨p, pos, rfl, c.1.1.2, c.1.2, c.2, c.1.1.1⟩
    · cases h
  · cases h
section
variable {G : Gx} {M : MC} {k : Nat} {own : List Nat}
theorem je_one {e a : Expr} {f : Env → R D} {op : D → R D} (ha : JB G M k own a f)
    (h : ∀ X W, Good G M k W X → ∃ r, (∀ ta, PE X a ta → PE X e (tUn r ta)) ∧ ∀ W', Ref1 G W' r op) :
    JE G M k own e (fun s => do let x ← f s; op x) := fun X W gd => by
  obtain ⟨t, p, q⟩ := ha X W gd
  obtain ⟨r, h1, h2⟩ := h X W gd
  refine ⟨_, h1 _ p, fun σ H O env Q E z => ?_⟩
  refine q σ H O env _ E (Post.seq z fun d v H1 _ s1 r1 z1 => ?_)
  exact h2 W σ H1 O v d Q (E.mono s1).ok r1 z1
theorem je_two {e a b : Expr} {f g : Env → R D} {op : D → D → R D} (ha : JB G M k own a f) (hb : JB G M k own b g)
    (h : ∀ X W, Good G M k W X → ∃ r, (∀ ta tb, PE X a ta → PE X b tb → PE X e (tOp r ta tb)) ∧ ∀ W', Ref2 G W' r op) :
    JE G M k own e (fun s => do let x ← f s; let y ← g s; op x y) := fun X W gd => by
  obtain ⟨t, p, q⟩ := ha X W gd
  obtain ⟨t2, p2, q2⟩ := hb X W gd
  obtain ⟨r, h1, h2⟩ := h X W gd
  refine ⟨_, h1 _ _ p p2, fun σ H O env Q E z => ?_⟩
  refine q σ H O env _ E (Post.seq z fun d v H1 _ s1 r1 z1 => ?_)
  have E1 := E.mono s1
  refine q2 σ H1 O env _ E1 (Post.seq z1 fun d2 v2 H2 _ s2 r2 z2 => ?_)
  exact h2 W σ H2 O v v2 d d2 Q (E1.mono s2).ok (r1.mono s2 (hid_mono s2)) r2 z2
/-- a built-in function | a built-in type, called with one thing -/
theorem je_b1 {s : String} {a : Expr} {p pos : Pos} {f : Env → R D} {op : D → R D} {id : String} {r : Cx → List V → Hp → VK → Prop} (ha : JB G M k own a f) (hn : notStar a = true) (hg : gl M s (Str.ofString s) = true)
    (hc : ∀ X W, Good G M k W X → CallR X (.builtin id) (r X)) (hr : ∀ (X : Cx) W', Ref1 G W' (fun x => r X [x]) op) (hm : s ∈ bnames := by decide) (hv : bootBuiltins (Str.ofString s) = some (.builtin id) := by decide +kernel)
    (h1 : Str.ofString s ≠ "__name__" := by decide) (h2 : (Str.ofString s == ("__debug__" : Str)) = false := by decide) : JE G M k own (.Call (.Name (Str.ofString s) p) [a] [] pos) (fun s => do let x ← f s; op x) :=
  je_one ha fun X W g => ⟨fun x => r X [x], fun ta hp => pe_callB (hc X W g) (gl_of g hg).2 (blt_in g hm) hv (pa_cons hp pa_nil (star_cons hn _ _)) h1 h2 (star_cons hn _ _) rfl, hr X⟩
theorem je_t1 {s : String} {a : Expr} {p pos : Pos} {f : Env → R D} {op : D → R D} {id : String} {r : Cx → List V → Hp → VK → Prop} (ha : JB G M k own a f) (hn : notStar a = true) (hg : gl M s (Str.ofString s) = true)
    (hc : ∀ X W, Good G M k W X → CallR X (.type id) (r X)) (hr : ∀ (X : Cx) W', Ref1 G W' (fun x => r X [x]) op) (hm : s ∈ bnames := by decide) (hv : bootBuiltins (Str.ofString s) = some (.type id) := by decide +kernel)
    (h1 : Str.ofString s ≠ "__name__" := by decide) (h2 : (Str.ofString s == ("__debug__" : Str)) = false := by decide) : JE G M k own (.Call (.Name (Str.ofString s) p) [a] [] pos) (fun s => do let x ← f s; op x) :=
  je_one ha fun X W g => ⟨fun x => r X [x], fun ta hp => pe_callTy (hc X W g) (gl_of g hg).2 (blt_in g hm) hv (pa_cons hp pa_nil (star_cons hn _ _)) h1 h2 (star_cons hn _ _) rfl, hr X⟩

/-! ### one operand -/
def negV : Expr → Option Expr
  | .UnaryOp .USub a _ => some a
  | _ => none
theorem negV_of {x a : Expr} (h : negV x = some a) : ∃ pos, x = .UnaryOp .USub a pos := by
  unfold negV at h
  split at h
  · cases h; exact ⟨_, rfl⟩
  · cases h
def revV : Expr → Option Expr
  | .Subscript a (.Slice none none (some (.UnaryOp .USub (.Constant (.int 1) _ _) _)) _) _ => some a
  | _ => none
theorem revV_of {x a : Expr} (h : revV x = some a) : ∃ j p1 p2 p3 pos, x = .Subscript a (.Slice none none (some (.UnaryOp .USub (.Constant (.int 1) j p1) p2)) p3) pos := by
  unfold revV at h
  split at h
  · cases h; exact ⟨_, _, _, _, _, rfl⟩
  · cases h
def isiV (M : MC) (t : Ty) : Expr → Option Expr
  | .Call (.Name f _) [a, .Name c _] [] _ => if gl M "isinstance" f && notStar a && gl M (tyN t) c then some a else none
  | _ => none
theorem gl_eq {M : MC} {s : String} {f : Str} (h : gl M s f = true) : f = Str.ofString s := by
  unfold gl at h
  rw [Bool.and_eq_true, decide_eq_true_eq] at h
  exact h.1
theorem isiV_of {M : MC} {t : Ty} {x a : Expr} (h : isiV M t x = some a) : ∃ p p2 pos, x = .Call (.Name (Str.ofString "isinstance") p) [a, .Name (Str.ofString (tyN t)) p2] [] pos ∧ notStar a = true ∧ gl M "isinstance" (Str.ofString "isinstance") = true ∧ gl M (tyN t) (Str.ofString (tyN t)) = true := by
  unfold isiV at h
  split at h
  · rename_i f p b c p2 pos
    split at h
    · rename_i q
      cases h
      rw [Bool.and_eq_true, Bool.and_eq_true] at q
      have e1 := gl_eq q.1.1
      have e2 := gl_eq q.2
      subst e1 e2
      exact ⟨p, p2, pos, rfl, q.1.2, q.1.1, q.2⟩
    · cases h
  · cases h
/-- f(set(a)) -/
def setV (M : MC) (s : String) (x : Expr) : Option Expr := match call1 M s x with
  | some y => call1 M "set" y
  | none => none
theorem setV_of {M : MC} {s : String} {x a : Expr} (h : setV M s x = some a) : ∃ p p2 q pos, x = .Call (.Name (Str.ofString s) p) [.Call (.Name (Str.ofString "set") p2) [a] [] q] [] pos ∧ notStar a = true ∧ gl M s (Str.ofString s) = true ∧ gl M "set" (Str.ofString "set") = true := by
  unfold setV at h
  split at h
  · rename_i y e
    obtain ⟨p, pos, rfl, _, h1⟩ := call1_of e
    obtain ⟨p2, q, rfl, h2, h3⟩ := call1_of h
    exact ⟨p, p2, q, pos, rfl, h2, h1, h3⟩
  · cases h
def v1 (M : MC) (o : Op1) (x : Expr) : Option Expr := match o with
  | .neg => negV x
  | .len => call1 M "len" x
  | .tupleOf => call1 M "tuple" x
  | .listOf => call1 M "list" x
  | .sum => call1 M "sum" x
  | .any => call1 M "any" x
  | .all => call1 M "all" x
  | .intOf => call1 M "int" x
  | .abs => call1 M "abs" x
  | .strOf => call1 M "str" x
  | .isInst t => isiV M t x
  | .rev => revV x
  | .sorted => call1 M "sorted" x
  | .lenSet => setV M "len" x
  | .sortedSet => setV M "sorted" x
  | _ => none
theorem je_isi {t : Ty} {a : Expr} {p p2 pos : Pos} {f : Env → R D} (ha : JB G M k own a f) (hn : notStar a = true) (hg : gl M "isinstance" (Str.ofString "isinstance") = true) (ht : gl M (tyN t) (Str.ofString (tyN t)) = true) :
    JE G M k own (.Call (.Name (Str.ofString "isinstance") p) [a, .Name (Str.ofString (tyN t)) p2] [] pos) (fun s => do let d ← f s; op1D (.isInst t) d) :=
  je_one ha fun X W g => ⟨fun x => rIsi X.K [x, .ty (tyN t)], fun ta hp => by
    have ht2 : PE X (.Name (Str.ofString (tyN t)) p2) (tC (.ty (tyN t))) := by
      cases t
      · exact pe_bltn (gl_of g ht).2 (blt_in g) PyProof.Rows.boot_int rfl
      · exact pe_bltn (gl_of g ht).2 (blt_in g) PyProof.Rows.boot_bool rfl
      · exact pe_bltn (gl_of g ht).2 (blt_in g) PyProof.Rows.boot_tuple rfl
      · exact pe_bltn (gl_of g ht).2 (blt_in g) PyProof.Rows.boot_list rfl
    exact pe_callB call_isi (gl_of g hg).2 (blt_in g) (by decide +kernel) (pa_cons hp (pa_cons ht2 pa_nil) (star_cons hn _ _)) (by decide) (by decide) (star_cons hn _ _) rfl, fun W' => ref_isi t⟩
theorem snd1 {o : Op1} {x a : Expr} {f : Env → R D} (h : v1 M o x = some a) (ha : JB G M k own a f) : JE G M k own x (fun s => do let d ← f s; op1D o d) := by
  cases o with
  | neg =>
    obtain ⟨pos, rfl⟩ := negV_of h
    exact je_one ha fun X W g => ⟨_, fun ta hp => pe_un un_neg hp, fun W' => ref_neg⟩
  | rev =>
    obtain ⟨_, _, _, _, _, rfl⟩ := revV_of h
    exact je_one ha fun X W g => ⟨_, fun ta hp => pe_rev hp, fun W' => ref_rev⟩
  | isInst t =>
    obtain ⟨_, _, _, rfl, h1, h2, h3⟩ := isiV_of h
    exact je_isi ha h1 h2 h3
  | sorted =>
    obtain ⟨_, _, rfl, h1, h2⟩ := call1_of (s := "sorted") h
    exact je_b1 ha h1 h2 (fun X W g => cr_sortedA) fun X W' => ref_sorted
  | lenSet =>
    obtain ⟨_, _, _, _, rfl, h1, h2, h3⟩ := setV_of (s := "len") h
    exact je_one ha fun X W g => ⟨_, fun ta hp => pe_lenSetA g.calm (gl_of g h2).2 (blt_in g) (gl_of g h3).2 (blt_in g) hp h1, fun W' => ref_lenSet⟩
  | sortedSet =>
    obtain ⟨_, _, _, _, rfl, h1, h2, h3⟩ := setV_of (s := "sorted") h
    exact je_one ha fun X W g => ⟨_, fun ta hp => pe_sortSet g.calm g.room.units (gl_of g h2).2 (blt_in g) (gl_of g h3).2 (blt_in g) hp h1, fun W' => ref_sortSet⟩
  | len =>
    obtain ⟨_, _, rfl, h1, h2⟩ := call1_of (s := "len") h
    exact je_b1 ha h1 h2 (fun X W g => call_len_seq) fun X W' => ref_len
  | tupleOf =>
    obtain ⟨_, _, rfl, h1, h2⟩ := call1_of (s := "tuple") h
    exact je_t1 ha h1 h2 (fun X W g => call_tuple_of) fun X W' => ref_tuple
  | listOf =>
    obtain ⟨_, _, rfl, h1, h2⟩ := call1_of (s := "list") h
    exact je_t1 ha h1 h2 (fun X W g => call_list_of) fun X W' => ref_list
  | sum =>
    obtain ⟨_, _, rfl, h1, h2⟩ := call1_of (s := "sum") h
    exact je_b1 ha h1 h2 (fun X W g => (cr_sum g.calm).or (cr_sumT g.calm)) fun X W' => ref_sum
  | any =>
    obtain ⟨_, _, rfl, h1, h2⟩ := call1_of (s := "any") h
    exact je_b1 ha h1 h2 (fun X W g => cr_any g.calm) fun X W' => ref_any
  | all =>
    obtain ⟨_, _, rfl, h1, h2⟩ := call1_of (s := "all") h
    exact je_b1 ha h1 h2 (fun X W g => cr_all g.calm) fun X W' => ref_all
  | intOf =>
    obtain ⟨_, _, rfl, h1, h2⟩ := call1_of (s := "int") h
    exact je_t1 ha h1 h2 (fun X W g => call_int1) fun X W' => ref_int
  | abs =>
    obtain ⟨_, _, rfl, h1, h2⟩ := call1_of (s := "abs") h
    exact je_b1 ha h1 h2 (fun X W g => call_abs) fun X W' => ref_abs
  | strOf =>
    obtain ⟨_, _, rfl, h1, h2⟩ := call1_of (s := "str") h
    exact je_t1 ha h1 h2 (fun X W g => call_str_int) fun X W' => ref_str
  | _ => cases h

/-! ### two operands -/
def cmpOf : Op2 → Option CmpOp
  | .eq => some .Eq
  | .ne => some .NotEq
  | .lt => some .Lt
  | .le => some .LtE
  | .gt => some .Gt
  | .ge => some .GtE
  | .isin => some .In
  | .notin => some .NotIn
  | .is_ => some .Is
  | .isNot => some .IsNot
  | _ => none
theorem cmpOk_of {o : Op2} {c : CmpOp} (h : cmpOf o = some c) : CmpOk G M k c (op2D o) := by
  cases o <;> cases h
  · exact cmp_eq
  · exact cmp_ne
  · exact cmp_lt
  · exact cmp_le
  · exact cmp_gt
  · exact cmp_ge
  · exact cmp_in
  · exact cmp_notin
  · exact cmp_is
  · exact cmp_isNot
def binOf : Op2 → Option Operator
  | .add => some .Add
  | .sub => some .Sub
  | .mul => some .Mult
  | .fdiv => some .FloorDiv
  | .mod => some .Mod
  | _ => none
theorem binOk_of {o : Op2} {c : Operator} (h : binOf o = some c) : BinOk G M k c (op2D o) := by
  cases o <;> cases h
  · exact bin_add
  · exact bin_sub
  · exact bin_mul
  · exact bin_fdiv
  · exact bin_mod
def cmpV (c : CmpOp) : Expr → Option (Expr × Expr)
  | .Compare a [c'] [b] _ => if decide (c' = c) && !behindInMarks c b then some (a, b) else none
  | _ => none
theorem cmpV_of {c : CmpOp} {x a b : Expr} (h : cmpV c x = some (a, b)) : ∃ pos, x = .Compare a [c] [b] pos ∧ behindInMarks c b = false := by
  unfold cmpV at h
  split at h
  · split at h
    · rename_i q
      cases h
      rw [Bool.and_eq_true, decide_eq_true_eq, Bool.not_eq_true'] at q
      obtain ⟨rfl, q2⟩ := q
      exact ⟨_, rfl, q2⟩
    · cases h
  · cases h
def binV (c : Operator) : Expr → Option (Expr × Expr)
  | .BinOp a c' b _ => if decide (c' = c) then some (a, b) else none
  | _ => none
theorem binV_of {c : Operator} {x a b : Expr} (h : binV c x = some (a, b)) : ∃ pos, x = .BinOp a c b pos := by
  unfold binV at h
  split at h
  · split at h
    · rename_i q
      cases h
      rw [decide_eq_true_eq] at q
      subst q
      exact ⟨_, rfl⟩
    · cases h
  · cases h
def idxV : Expr → Option (Expr × Expr)
  | .Subscript a b _ => if ixOk b then some (a, b) else none
  | _ => none
theorem idxV_of {x a b : Expr} (h : idxV x = some (a, b)) : ∃ pos, x = .Subscript a b pos ∧ ixOk b = true := by
  unfold idxV at h
  split at h
  · split at h
    · rename_i q
      cases h
      exact ⟨_, rfl, q⟩
    · cases h
  · cases h
def toV : Expr → Option (Expr × Expr)
  | .Subscript a (.Slice none (some b) none _) _ => some (a, b)
  | _ => none
theorem toV_of {x a b : Expr} (h : toV x = some (a, b)) : ∃ p pos, x = .Subscript a (.Slice none (some b) none p) pos := by
  unfold toV at h
  split at h
  · cases h; exact ⟨_, _, rfl⟩
  · cases h
def fromV : Expr → Option (Expr × Expr)
  | .Subscript a (.Slice (some b) none none _) _ => some (a, b)
  | _ => none
theorem fromV_of {x a b : Expr} (h : fromV x = some (a, b)) : ∃ p pos, x = .Subscript a (.Slice (some b) none none p) pos := by
  unfold fromV at h
  split at h
  · cases h; exact ⟨_, _, rfl⟩
  · cases h
def sliceV : Expr → Option (Expr × Expr × Expr)
  | .Subscript a (.Slice (some b) (some c) none _) _ => some (a, b, c)
  | _ => none
theorem sliceV_of {x a b c : Expr} (h : sliceV x = some (a, b, c)) : ∃ p pos, x = .Subscript a (.Slice (some b) (some c) none p) pos := by
  unfold sliceV at h
  split at h
  · cases h; exact ⟨_, _, rfl⟩
  · cases h
/-- o.m(b): what stands ahead of the point is plain -/
def attrOk : Expr → Bool
  | .Name .. => true
  | .Subscript .. => true
  | .Constant .. => true
  | .Attribute .. => true
  | _ => false
theorem attrOk_of {e : Expr} (h : attrOk e = true) (m : Str) (env : PySem.Env) : attributeBase e m env (eval e env) = eval e env := by
  cases e <;> first | rfl | cases h
def methV (m : String) : Expr → Option (Expr × Expr)
  | .Call (.Attribute a n ap) [b] [] cp => if decide (n = Str.ofString m) && attrOk a && notStar b && (ap.endLine == cp.line) then some (a, b) else none
  | _ => none
theorem methV_of {m : String} {x a b : Expr} (h : methV m x = some (a, b)) : ∃ ap cp, x = .Call (.Attribute a (Str.ofString m) ap) [b] [] cp ∧ attrOk a = true ∧ notStar b = true ∧ (ap.endLine == cp.line) = true := by
  unfold methV at h
  split at h
  · split at h
    · rename_i q
      cases h
      simp only [Bool.and_eq_true, decide_eq_true_eq] at q
      obtain ⟨⟨⟨rfl, q1⟩, q2⟩, q3⟩ := q
      exact ⟨_, _, rfl, q1, q2, q3⟩
    · cases h
  · cases h
def v2 (M : MC) (o : Op2) (x : Expr) : Option (Expr × Expr) := match cmpOf o with
  | some c => cmpV c x
  | none => (match binOf o with
    | some c => binV c x
    | none => (match o with
      | .idx => idxV x
      | .to => toV x
      | .from_ => fromV x
      | .min2 => call2 M "min" x
      | .max2 => call2 M "max" x
      | _ => none))
theorem snd2 {o : Op2} {x a b : Expr} {f g : Env → R D} (h : v2 M o x = some (a, b)) (ha : JB G M k own a f) (hb : JB G M k own b g) : JE G M k own x (fun s => do let d ← f s; let e ← g s; op2D o d e) := by
  unfold v2 at h
  cases hc : cmpOf o with
  | some c =>
    rw [hc] at h
    obtain ⟨pos, rfl, hm⟩ := cmpV_of h
    exact je_two ha hb fun X W gd => let ⟨r, h1, h2⟩ := cmpOk_of hc X W gd; ⟨r, fun ta tb p q => pe_cmpR h1 p q hm, h2⟩
  | none =>
    rw [hc] at h
    cases hd : binOf o with
    | some c =>
      rw [hd] at h
      obtain ⟨pos, rfl⟩ := binV_of h
      exact je_two ha hb fun X W gd => let ⟨r, h1, h2⟩ := binOk_of hd X W gd; ⟨r, fun ta tb p q => pe_op h1 p q, h2⟩
    | none =>
      rw [hd] at h
      cases o with
      | idx =>
        obtain ⟨pos, rfl, hi⟩ := idxV_of h
        exact je_two ha hb fun X W gd => ⟨_, fun ta tb p q => pe_ix (ix_list.or ix_tup) p q (plainIx hi), fun W' => ref_idx⟩
      | to =>
        obtain ⟨_, _, rfl⟩ := toV_of h
        refine je_two ha hb fun X W gd => ⟨fun x y H Q => ∃ i, y = .int i ∧ (rSlL X.K x none (some i) H Q ∨ rSlA X.K x none (some i) H Q), fun ta tb p q => pe_slice (sl_list.or sl_tupA) p po_none (po_some q), fun W' σ H O x y da db Q ok hx hy z => ?_⟩
        cases db with
        | int i =>
          rw [to_slice] at z
          exact ⟨i, hy.int, ref_slice ok hx z⟩
        | _ => cases da <;> exact z.elim
      | from_ =>
        obtain ⟨_, _, rfl⟩ := fromV_of h
        refine je_two ha hb fun X W gd => ⟨fun x y H Q => ∃ i, y = .int i ∧ (rSlL X.K x (some i) none H Q ∨ rSlA X.K x (some i) none H Q), fun ta tb p q => pe_slice (sl_list.or sl_tupA) p (po_some q) po_none, fun W' σ H O x y da db Q ok hx hy z => ?_⟩
        cases db with
        | int i =>
          rw [from_slice] at z
          exact ⟨i, hy.int, ref_slice ok hx z⟩
        | _ => cases da <;> exact z.elim
      | min2 =>
        obtain ⟨_, _, rfl, h1, h2, h3⟩ := call2_of (s := "min") h
        exact je_two ha hb fun X W gd => ⟨_, fun ta tb p q => pe_callB (call_min2 gd.calm) (gl_of gd h3).2 (blt_in gd) (by decide +kernel) (pa_cons p (pa_cons q pa_nil (star_cons h2 _ _)) (star_cons h1 _ _)) (by decide) (by decide) (star_cons h1 _ _) (by rw [star_cons h2] <;> rfl), fun W' => ref_min2⟩
      | max2 =>
        obtain ⟨_, _, rfl, h1, h2, h3⟩ := call2_of (s := "max") h
        exact je_two ha hb fun X W gd => ⟨_, fun ta tb p q => pe_callB (call_max2 gd.calm) (gl_of gd h3).2 (blt_in gd) (by decide +kernel) (pa_cons p (pa_cons q pa_nil (star_cons h2 _ _)) (star_cons h1 _ _)) (by decide) (by decide) (star_cons h1 _ _) (by rw [star_cons h2] <;> rfl), fun W' => ref_max2⟩
      | _ => cases h
theorem je_index {x a b : Expr} {f g : Env → R D} (h : methV "index" x = some (a, b)) (ha : JB G M k own a f) (hb : JB G M k own b g) : JE G M k own x (fun s => do let xs ← listOf (f s); let y ← g s; indexD xs y) := by
  obtain ⟨_, _, rfl, h1, h2, h3⟩ := methV_of (m := "index") h
  intro X W gd
  obtain ⟨t, p, q⟩ := ha X W gd
  obtain ⟨t2, p2, q2⟩ := hb X W gd
  refine ⟨_, pe_bm PySem.F.plainAttrs_list PySem.F.slot_list_index PySem.F.type_list_index (mt_indexD (X := X) (units65 gd.room)) p (pa_cons p2 pa_nil (star_cons h2 _ _)) (attrOk_of h1 _ _) (by rw [star_cons h2] <;> rfl) h3 (star_cons h2 _ _) rfl, fun σ H O env Q E z => ?_⟩
  refine q σ H O env _ E ?_
  change Post W G.cA σ H (relD O) (listOf (f env) >>= fun xs => g env >>= fun y => indexD xs y) Q at z
  cases e : f env with
  | bad => rw [e] at z; exact z.elim
  | ex c => rw [e] at z; exact z
  | ok d =>
    rw [e] at z
    cases d with
    | list xs =>
      change Post W G.cA σ H (relD O) (g env >>= fun y => indexD xs y) Q at z
      intro v H1 s1 r1
      obtain ⟨av, vs, rfl, hav, _⟩ := RpB.list hid_sub r1
      refine ⟨.inl ⟨rfl, vs, sq_l hav⟩, ?_⟩
      refine q2 σ H1 O env _ (E.mono s1) (Post.seq (z.mono s1) fun d2 w H2 _ s2 r2 z2 => ?_)
      exact ref_index (r1.mono s2 (hid_mono s2)) r2 z2
    | _ => exact z.elim
end
/-! ### three operands, chains, tests -/
section
variable {G : Gx} {M : MC} {k : Nat} {own : List Nat} {W : WX} {cA : Nat → Addr} {σ : L2.St} {H : Hp} {O : List Addr}
def v3 (M : MC) (o : Op3) (x : Expr) : Option (Expr × Expr × Expr) := match o with
  | .min3 => call3 M "min" x
theorem snd3 {o : Op3} {x a b c : Expr} {f g h : Env → R D} (hv : v3 M o x = some (a, b, c)) (ha : JB G M k own a f) (hb : JB G M k own b g) (hc : JB G M k own c h) :
    JE G M k own x (fun s => do let d ← f s; let e ← g s; let i ← h s; op3D o d e i) := by
  cases o with
  | min3 =>
    obtain ⟨_, _, rfl, h1, h2, h3, h4⟩ := call3_of (s := "min") hv
    intro X W gd
    obtain ⟨ta, p, q⟩ := ha X W gd
    obtain ⟨tb, p2, q2⟩ := hb X W gd
    obtain ⟨tc, p3, q3⟩ := hc X W gd
    refine ⟨_, pe_callB (call_min3 gd.calm) (gl_of gd h4).2 (blt_in gd) (by decide +kernel) (pa_cons p (pa_cons p2 (pa_cons p3 pa_nil (star_cons h3 _ _)) (star_cons h2 _ _)) (star_cons h1 _ _)) (by decide) (by decide) (star_cons h1 _ _) (by rw [star_cons h2, star_cons h3] <;> rfl), fun σ H O env Q E z => ?_⟩
    refine q σ H O env _ E (Post.seq z fun d v H1 _ s1 r1 z1 => ?_)
    have E1 := E.mono s1
    refine q2 σ H1 O env _ E1 (Post.seq z1 fun d2 v2 H2 _ s2 r2 z2 => ?_)
    have E2 := E1.mono s2
    refine q3 σ H2 O env _ E2 (Post.seq z2 fun d3 v3 H3 _ s3 r3 z3 => ?_)
    cases d with
    | int i =>
      cases d2 with
      | int j =>
        cases d3 with
        | int l => exact ⟨i, j, l, by rw [r1.int, r2.int, r3.int], post_out z3 (.int _)⟩
        | _ => exact z3.elim
      | _ => exact z3.elim
    | _ => exact z3.elim
theorem intOf_cases (r : R D) : (∃ k, r = .ok (.int k)) ∨ (∃ c, r = .ex c) ∨ intOf r = .bad := by
  cases r with
  | bad => exact .inr (.inr rfl)
  | ex c => exact .inr (.inl ⟨c, rfl⟩)
  | ok d =>
    cases d with
    | int b => exact .inl ⟨b, rfl⟩
    | _ => exact .inr (.inr rfl)
theorem je_slice {x a b c : Expr} {f g h : Env → R D} (hv : sliceV x = some (a, b, c)) (ha : JB G M k own a f) (hb : JB G M k own b g) (hc : JB G M k own c h) :
    JE G M k own x (fun s => do let d ← f s; let i ← intOf (g s); let e ← h s; sliceO d i e) := by
    obtain ⟨_, _, rfl⟩ := sliceV_of hv
    intro X W gd
    obtain ⟨ta, p, q⟩ := ha X W gd
    obtain ⟨tb, p2, q2⟩ := hb X W gd
    obtain ⟨tc, p3, q3⟩ := hc X W gd
    refine ⟨_, pe_slice (sl_list.or sl_tupA) p (po_some p2) (po_some p3), fun σ H O env Q E z => ?_⟩
    refine q σ H O env _ E (Post.seq z fun d v H1 _ s1 r1 z1 => ?_)
    have E1 := E.mono s1
    change tPart tb σ H1 _
    refine q2 σ H1 O env _ E1 ?_
    rcases intOf_cases (g env) with ⟨j, e⟩ | ⟨c, e⟩ | e
    · rw [e] at z1 ⊢
      intro v2 H2 s2 r2
      have E2 := E1.mono s2
      refine ⟨j, r2.int, ?_⟩
      change Post W G.cA σ H1 (relD O) (do let e ← h env; sliceO d j e) Q at z1
      refine q3 σ H2 O env _ E2 (Post.seq (z1.mono s2) fun d3 v3 H3 _ s3 r3 z3 => ?_)
      cases d3 with
      | int l =>
        rw [slice_slice] at z3
        exact ⟨l, r3.int, ref_slice (E2.mono s3).ok ((r1.mono s2 (hid_mono s2)).mono s3 (hid_mono s3)) z3⟩
      | _ => cases d <;> exact z3.elim
    · rw [e] at z1 ⊢
      exact z1
    · rw [e] at z1
      exact z1.elim

theorem boolOf_cases (r : R D) : (∃ k, r = .ok (.bool k)) ∨ (∃ c, r = .ex c) ∨ boolOf r = .bad := by
  cases r with
  | bad => exact .inr (.inr rfl)
  | ex c => exact .inr (.inl ⟨c, rfl⟩)
  | ok d =>
    cases d with
    | bool b => exact .inl ⟨b, rfl⟩
    | _ => exact .inr (.inr rfl)
/-- a bool, an exception or nothing -/
def BoolR (r : R D) : Prop := (∃ k, r = .ok (.bool k)) ∨ (∃ c, r = .ex c) ∨ r = .bad
theorem post_test {r : R D} {Q : Bool → Hp → Prop} (hr : BoolR r) (z : Post W cA σ H relT (r >>= truthy) Q) : Post W cA σ H (relD O) r (fun x H' => ∃ k, x = .bl k ∧ Q k H') := by
  rcases hr with ⟨b, rfl⟩ | ⟨c, rfl⟩ | rfl
  · exact fun v H' s r => ⟨b, r.boolE, z b H' s rfl⟩
  · exact z
  · exact z
theorem bl_bool (r : R Bool) : BoolR (bl r) := by
  cases r with
  | ok b => exact .inl ⟨b, rfl⟩
  | ex c => exact .inr (.inl ⟨c, rfl⟩)
  | bad => exact .inr (.inr rfl)
theorem cmp_bool {o : Op2} {c : CmpOp} (h : cmpOf o = some c) (a b : D) : BoolR (op2D o a b) := by
  cases o <;> cases h <;> exact bl_bool _
theorem jt_cmp {o : Op2} {c : CmpOp} {x a b : Expr} {f g : Env → R D} (hc : cmpOf o = some c) (h : cmpV c x = some (a, b)) (ha : JB G M k own a f) (hb : JB G M k own b g) : JT G M k own x (fun s => do let v ← (do let d ← f s; let e ← g s; op2D o d e); truthy v) := fun X W gd => by
  obtain ⟨pos, rfl, hm⟩ := cmpV_of h
  obtain ⟨ta, p, q⟩ := ha X W gd
  obtain ⟨tb, p2, q2⟩ := hb X W gd
  obtain ⟨r, h1, h2⟩ := cmpOk_of (G := G) (M := M) (k := k) hc X W gd
  refine ⟨_, pt_cmpR h1 p p2 hm, fun σ H O env Q E z => ?_⟩
  have z : Post W G.cA σ H relT (f env >>= fun d => g env >>= fun e => op2D o d e >>= truthy) Q := by
    cases hf : f env with
    | ok d =>
      cases hg : g env with
      | ok e => simpa [hf, hg] using z
      | ex c => simpa [hf, hg] using z
      | bad => simpa [hf, hg] using z
    | ex c => simpa [hf] using z
    | bad => simpa [hf] using z
  refine q σ H O env _ E (Post.seq z fun d v H1 _ s1 r1 z1 => ?_)
  refine q2 σ H1 O env _ (E.mono s1) (Post.seq z1 fun d2 v2 H2 _ s2 r2 z2 => ?_)
  exact h2 W σ H2 O v v2 d d2 _ ((E.mono s1).mono s2).ok (r1.mono s2 (hid_mono s2)) r2 (post_test (cmp_bool hc _ _) z2)
def chainV (c c' : CmpOp) : Expr → Option (Expr × Expr × Expr)
  | .Compare a [d, d'] [b, e] _ => if decide (d = c) && decide (d' = c') && !lastMarks [c, c'] [b, e] then some (a, b, e) else none
  | _ => none
theorem chainV_of {c c' : CmpOp} {x a b e : Expr} (h : chainV c c' x = some (a, b, e)) : ∃ pos, x = .Compare a [c, c'] [b, e] pos ∧ lastMarks [c, c'] [b, e] = false := by
  unfold chainV at h
  split at h
  · split at h
    · rename_i q
      cases h
      simp only [Bool.and_eq_true, decide_eq_true_eq, Bool.not_eq_true'] at q
      obtain ⟨⟨rfl, rfl⟩, q⟩ := q
      exact ⟨_, rfl, q⟩
    · cases h
  · cases h
def denCh (o o' : Op2) (f g h : Env → R D) (s : Env) : R D := do
  let x ← f s
  let y ← g s
  let k ← boolOf (op2D o x y)
  if k then (do let z ← h s; op2D o' y z) else .ok (.bool false)
theorem ch_core {o o' : Op2} {r r' : R2} {f g h : Env → R D} {env : Env} {ta tb tc : TE} {Q : VK} (E : EnvR own H O env σ)
    (qa : ∀ σ H O env Q, EnvR own H O env σ → Post W G.cA σ H (relB O) (f env) Q → ta σ H Q) (qb : ∀ σ H O env Q, EnvR own H O env σ → Post W G.cA σ H (relB O) (g env) Q → tb σ H Q)
    (qc : ∀ σ H O env Q, EnvR own H O env σ → Post W G.cA σ H (relB O) (h env) Q → tc σ H Q) (h2 : ∀ W', Ref2 G W' r (op2D o)) (h2' : ∀ W', Ref2 G W' r' (op2D o'))
    (z : Post W G.cA σ H (relD O) (denCh o o' f g h env) Q) : tChain r r' ta tb tc σ H Q := by
  refine qa σ H O env _ E (Post.seq z fun d v H1 _ s1 r1 z1 => ?_)
  have E1 := E.mono s1
  refine qb σ H1 O env _ E1 (Post.seq z1 fun d2 v2 H2 _ s2 r2 z2 => ?_)
  have E2 := E1.mono s2
  refine h2 W σ H2 O v v2 d d2 _ E2.ok (r1.mono s2 (hid_mono s2)) r2 ?_
  rcases boolOf_cases (op2D o d d2) with ⟨kk, e⟩ | ⟨c, e⟩ | e
  · rw [e] at z2 ⊢
    intro w H3 s3 r3
    refine ⟨kk, r3.boolE, ?_⟩
    cases kk with
    | false =>
      rw [if_neg Bool.false_ne_true]
      exact z2 _ _ s3 (.bl false)
    | true =>
      rw [if_pos rfl]
      change Post W G.cA σ H2 (relD O) (do let z ← h env; op2D o' d2 z) Q at z2
      refine qc σ H3 O env _ (E2.mono s3) (Post.seq (z2.mono s3) fun d3 v3 H4 _ s4 r4 z4 => ?_)
      exact h2' W σ H4 O v2 v3 d2 d3 _ ((E2.mono s3).mono s4).ok ((r2.mono s3 (hid_mono s3)).mono s4 (hid_mono s4)) r4 z4
  · rw [e] at z2 ⊢
    exact z2
  · rw [e] at z2
    exact z2.elim
theorem je_chain {o o' : Op2} {c c' : CmpOp} {x a b e : Expr} {f g h : Env → R D} (hc : cmpOf o = some c) (hc' : cmpOf o' = some c') (hv : chainV c c' x = some (a, b, e)) (ha : JB G M k own a f) (hb : JB G M k own b g) (he : JB G M k own e h) :
    JE G M k own x (denCh o o' f g h) := fun X W gd => by
  obtain ⟨pos, rfl, hm⟩ := chainV_of hv
  obtain ⟨ta, p, q⟩ := ha X W gd
  obtain ⟨tb, p2, q2⟩ := hb X W gd
  obtain ⟨tc, p3, q3⟩ := he X W gd
  obtain ⟨r, h1, h2⟩ := cmpOk_of (G := G) (M := M) (k := k) hc X W gd
  obtain ⟨r', h1', h2'⟩ := cmpOk_of (G := G) (M := M) (k := k) hc' X W gd
  exact ⟨_, pe_chain h1 h1' p p2 p3 hm, fun σ H O env Q E z => ch_core E q q2 q3 h2 h2' z⟩
theorem ch_bool {o o' : Op2} {c' : CmpOp} {f g h : Env → R D} {env : Env} (hc' : cmpOf o' = some c') : BoolR (denCh o o' f g h env) := by
  unfold denCh
  cases f env with
  | bad => exact .inr (.inr rfl)
  | ex c => exact .inr (.inl ⟨c, rfl⟩)
  | ok x =>
    cases g env with
    | bad => exact .inr (.inr rfl)
    | ex c => exact .inr (.inl ⟨c, rfl⟩)
    | ok y =>
      rw [ok_bind, ok_bind]
      cases boolOf (op2D o x y) with
      | bad => exact .inr (.inr rfl)
      | ex c => exact .inr (.inl ⟨c, rfl⟩)
      | ok b =>
        rw [ok_bind]
        cases b with
        | false => exact .inl ⟨false, rfl⟩
        | true =>
          rw [if_pos rfl]
          cases h env with
          | bad => exact .inr (.inr rfl)
          | ex c => exact .inr (.inl ⟨c, rfl⟩)
          | ok z => exact cmp_bool hc' _ _
theorem jt_chain {o o' : Op2} {c c' : CmpOp} {x a b e : Expr} {f g h : Env → R D} (hc : cmpOf o = some c) (hc' : cmpOf o' = some c') (hv : chainV c c' x = some (a, b, e)) (ha : JB G M k own a f) (hb : JB G M k own b g) (he : JB G M k own e h) :
    JT G M k own x (fun s => do let v ← denCh o o' f g h s; truthy v) := fun X W gd => by
  obtain ⟨pos, rfl, hm⟩ := chainV_of hv
  obtain ⟨ta, p, q⟩ := ha X W gd
  obtain ⟨tb, p2, q2⟩ := hb X W gd
  obtain ⟨tc, p3, q3⟩ := he X W gd
  obtain ⟨r, h1, h2⟩ := cmpOk_of (G := G) (M := M) (k := k) hc X W gd
  obtain ⟨r', h1', h2'⟩ := cmpOk_of (G := G) (M := M) (k := k) hc' X W gd
  exact ⟨_, pt_chain h1 h1' p p2 p3 hm, fun σ H O env Q E z => ch_core (O := O) E q q2 q3 h2 h2' (post_test (ch_bool hc') z)⟩
/-- an expression whose test is its value's truth -/
def plainT : Expr → Bool
  | .Name .. => true
  | .Constant .. => true
  | .Call .. => true
  | .Subscript .. => true
  | .ListComp .. => true
  | .BinOp .. => true
  | .Tuple .. => true
  | .List .. => true
  | .Attribute .. => true
  | _ => false
theorem plainT_of {e : Expr} (h : plainT e = true) (env : PySem.Env) (whole : Sem Value) : isTrue e env whole = (do let v ← whole; standAt e.pos; holding [v] (PySem.truthy v)) := by
  cases e <;> first | rfl | cases h
theorem tru_of {K : PySem.W.Frag} {v : V} {d : D} {b : Bool} (r : RpB H (hid H O) v d) (h : SF.truthy d = .ok b) : TruV K v H b := by
  cases d with
  | none => cases h; rw [r.none]; rfl
  | bool i => cases h; rw [r.bool]; rfl
  | int i => cases h; rw [r.int]; rfl
  | list xs =>
    cases h
    obtain ⟨a, vs, rfl, ha, ra⟩ := r.list hid_sub
    refine .inl ⟨vs, sq_l ha, ?_⟩
    cases ra <;> rfl
  | tuple xs =>
    cases h
    obtain ⟨a, vs, rfl, ha, ra⟩ := r.tuple hid_sub
    refine .inr (.inl ⟨vs, sq_t ha, ?_⟩)
    cases ra <;> rfl
  | _ => cases h
theorem truthy_cases (d : D) : (∃ b, SF.truthy d = .ok b) ∨ SF.truthy d = .bad := by
  cases d <;> first | exact .inl ⟨_, rfl⟩ | exact .inr rfl
theorem jt_truth {x : Expr} {f : Env → R D} (h : plainT x = true) (ha : JB G M k own x f) : JT G M k own x (fun s => do let v ← f s; truthy v) := fun X W gd => by
  obtain ⟨ta, p, q⟩ := ha X W gd
  refine ⟨_, pt_truth p (fun w => plainT_of h _ w), fun σ H O env Q E z => ?_⟩
  refine q σ H O env _ E (Post.seq z fun d v H1 _ s1 r1 z1 => ?_)
  rcases truthy_cases d with ⟨b, e⟩ | e
  · rw [e] at z1
    exact ⟨b, tru_of r1 e, z1 b _ (Same.refl _) rfl⟩
  · rw [e] at z1
    exact z1.elim

/-! ### and, or, not, if else -/
theorem post_bool {r : R D} {f : Bool → R D} {Q : VK} {Q' : V → Hp → Prop} (z : Post W cA σ H (relD O) (boolOf r >>= f) Q) (k : ∀ b v H', Same H H' → v = .bl b → Post W cA σ H' (relD O) (f b) Q → Q' v H') : Post W cA σ H (relB O) r Q' := by
  rcases boolOf_cases r with ⟨b, rfl⟩ | ⟨c, rfl⟩ | e
  · intro v H' s r
    exact k b v H' s r.bool (Post.mono z s)
  · exact z
  · rw [e] at z
    exact z.elim
theorem je_and {a b : Expr} {rest : List Expr} {pos : Pos} {f g : Env → R D} (ha : JB G M k own a f) (hb : JE G M k own (.BoolOp .And (b :: rest) pos) g) :
    JE G M k own (.BoolOp .And (a :: b :: rest) pos) (fun s => do let k ← boolOf (f s); if k then g s else .ok (.bool false)) := fun X W gd => by
  obtain ⟨ta, p, q⟩ := ha X W gd
  obtain ⟨tb, p2, q2⟩ := hb X W gd
  refine ⟨_, pe_and p p2, fun σ H O env Q E z => q σ H O env _ E (post_bool z fun b v H' s e z' => ⟨b, e, ?_⟩)⟩
  cases b with
  | true => exact q2 σ H' O env Q (E.mono s) z'
  | false => exact post_out z' (.bl false)
theorem je_or {a b : Expr} {rest : List Expr} {pos : Pos} {f g : Env → R D} (ha : JB G M k own a f) (hb : JE G M k own (.BoolOp .Or (b :: rest) pos) g) :
    JE G M k own (.BoolOp .Or (a :: b :: rest) pos) (fun s => do let k ← boolOf (f s); if k then .ok (.bool true) else g s) := fun X W gd => by
  obtain ⟨ta, p, q⟩ := ha X W gd
  obtain ⟨tb, p2, q2⟩ := hb X W gd
  refine ⟨_, pe_or p p2, fun σ H O env Q E z => q σ H O env _ E (post_bool z fun b v H' s e z' => ⟨b, e, ?_⟩)⟩
  cases b with
  | false => exact q2 σ H' O env Q (E.mono s) z'
  | true => exact post_out z' (.bl true)
theorem je_oneE {a : Expr} {op : BoolOp} {pos : Pos} {f : Env → R D} (ha : JE G M k own a f) : JE G M k own (.BoolOp op [a] pos) f := fun X W gd =>
  let ⟨ta, p, q⟩ := ha X W gd
  ⟨_, pe_one p, q⟩
theorem je_not {a : Expr} {pos : Pos} {f : Env → R D} (ha : JB G M k own a f) : JE G M k own (.UnaryOp .Not a pos) (fun s => do let k ← boolOf (f s); .ok (.bool (!k))) := fun X W gd => by
  obtain ⟨ta, p, q⟩ := ha X W gd
  exact ⟨_, pe_not p, fun σ H O env Q E z => q σ H O env _ E (post_bool z fun b v H' s e z' => ⟨b, e, post_out z' (.bl _)⟩)⟩
/-- a test that goes on -/
theorem test_bool {r : R D} {f : Bool → R D} {Q : Bool → Hp → Prop} {Q' : Bool → Hp → Prop} (z : Post W cA σ H relT ((boolOf r >>= f) >>= truthy) Q) (k : ∀ b H', Same H H' → Post W cA σ H' relT (f b >>= truthy) Q → Q' b H') : Post W cA σ H relT (r >>= truthy) Q' := by
  rcases boolOf_cases r with ⟨b, rfl⟩ | ⟨c, rfl⟩ | e
  · intro v H' s r
    cases r
    exact k b H' s (Post.mono z s)
  · exact z
  · rw [e] at z
    exact z.elim
theorem jw_and {a b : Expr} {rest : List Expr} {pos : Pos} {f g : Env → R D} (ha : JT G M k own a (fun s => do let v ← f s; truthy v)) (hb : JW G M k own (.BoolOp .And (b :: rest) pos) (fun s => do let v ← g s; truthy v)) :
    JW G M k own (.BoolOp .And (a :: b :: rest) pos) (fun s => do let v ← (do let k ← boolOf (f s); if k then g s else .ok (.bool false)); truthy v) := fun X W gd => by
  obtain ⟨ta, p, q⟩ := ha X W gd
  obtain ⟨tb, p2, q2⟩ := hb X W gd
  refine ⟨_, pw_and p p2, fun σ H O env Q E z => q σ H O env _ E (test_bool z fun b H' s z' => ?_)⟩
  cases b with
  | true => exact q2 σ H' O env Q (E.mono s) z'
  | false => exact z' false H' (Same.refl _) rfl
theorem jw_or {a b : Expr} {rest : List Expr} {pos : Pos} {f g : Env → R D} (ha : JT G M k own a (fun s => do let v ← f s; truthy v)) (hb : JW G M k own (.BoolOp .Or (b :: rest) pos) (fun s => do let v ← g s; truthy v)) :
    JW G M k own (.BoolOp .Or (a :: b :: rest) pos) (fun s => do let v ← (do let k ← boolOf (f s); if k then .ok (.bool true) else g s); truthy v) := fun X W gd => by
  obtain ⟨ta, p, q⟩ := ha X W gd
  obtain ⟨tb, p2, q2⟩ := hb X W gd
  refine ⟨_, pw_or p p2, fun σ H O env Q E z => q σ H O env _ E (test_bool z fun b H' s z' => ?_)⟩
  cases b with
  | false => exact q2 σ H' O env Q (E.mono s) z'
  | true => exact z' true H' (Same.refl _) rfl
theorem jw_one {a : Expr} {op : BoolOp} {pos : Pos} {f : Env → R Bool} (ha : JT G M k own a f) : JW G M k own (.BoolOp op [a] pos) f := fun X W gd =>
  let ⟨ta, p, q⟩ := ha X W gd
  match op with
  | .And => ⟨_, pw_and1 p, q⟩
  | .Or => ⟨_, pw_or1 p, q⟩
theorem jt_not {a : Expr} {pos : Pos} {f : Env → R D} (ha : JT G M k own a (fun s => do let v ← f s; truthy v)) : JT G M k own (.UnaryOp .Not a pos) (fun s => do let v ← (do let k ← boolOf (f s); .ok (.bool (!k))); truthy v) := fun X W gd => by
  obtain ⟨ta, p, q⟩ := ha X W gd
  exact ⟨_, pt_not p, fun σ H O env Q E z => q σ H O env _ E (test_bool z fun b H' s z' => z' (!b) H' (Same.refl _) rfl)⟩
theorem je_ite {c a b : Expr} {pos : Pos} {h f g : Env → R D} (hc : JT G M k own c (fun s => do let v ← h s; truthy v)) (ha : JE G M k own a f) (hb : JE G M k own b g) :
    JE G M k own (.IfExp c a b pos) (fun s => do let x ← h s; let k ← truthy x; if k then f s else g s) := fun X W gd => by
  obtain ⟨tc, p0, q0⟩ := hc X W gd
  obtain ⟨ta, p, q⟩ := ha X W gd
  obtain ⟨tb, p2, q2⟩ := hb X W gd
  refine ⟨_, pe_ifExp p0 p p2, fun σ H O env Q E z => q0 σ H O env _ E ?_⟩
  have z : Post W G.cA σ H (relD O) ((do let v ← h env; truthy v) >>= fun k => if k = true then f env else g env) Q := by
    cases hh : h env <;> simpa [hh] using z
  refine Post.seq z fun b v H' _ s e z' => ?_
  obtain rfl : v = b := e
  cases v with
  | true => exact q σ H' O env Q (E.mono s) z'
  | false => exact q2 σ H' O env Q (E.mono s) z'
theorem line_of {n : Nat} (h : n ≤ 1000) : n ≤ sizeLine := by rw [sizeLine_eq]; omega
theorem je_tup {es : List Expr} {j : Nat} {pos : Pos} {f : Env → R (List D)} (h : JA G M k own es f) (hn : es.length ≤ 1000) (hl : ∀ env ds, f env = .ok ds → ds.length = es.length) : JE G M k own (.Tuple es j pos) (fun s => do let ds ← f s; .ok (.tuple ds)) := fun X W gd => by
  obtain ⟨ta, p, q⟩ := h X W gd
  refine ⟨_, pe_tup p, fun σ H O env Q E z => q σ H O env _ E (Post.seq z fun ds vs H' e s r z' => ⟨?_, fun p hp => post_tup (E.mono s).ok z' r hp⟩)⟩
  rw [r.length, hl env ds e]
  exact line_of hn
theorem je_lst {es : List Expr} {pos : Pos} {f : Env → R (List D)} (h : JA G M k own es f) (hn : es.length ≤ 1000) (hl : ∀ env ds, f env = .ok ds → ds.length = es.length) : JE G M k own (.List es pos) (fun s => do let ds ← f s; .ok (.list ds)) := fun X W gd => by
  obtain ⟨ta, p, q⟩ := h X W gd
  refine ⟨_, pe_lst p, fun σ H O env Q E z => q σ H O env _ E (Post.seq z fun ds vs H' e s r z' => ⟨?_, fun p hp => post_lst (E.mono s).ok z' r hp⟩)⟩
  rw [r.length, hl env ds e]
  exact line_of hn
end
end SF

namespace SF
open PySem PySem.Spec PyProof.Rows L2
variable [KS]
/-! ### iterators -/
section
variable {G : Gx} {M : MC} {k : Nat} {own : List Nat} {W : WX} {cA : Nat → Addr} {σ : L2.St} {H : Hp} {O : List Addr}
def iSeq (K : PySem.W.Frag) (tl : TE) : TI := fun σ H R => tl σ H fun x H1 => ∃ a xs, x = .ref a ∧ ((SqL K H1 a xs ∧ R (Itl K a) H1) ∨ (SqT K H1 a xs ∧ R (Itt K a) H1))
theorem pi_seq {X : Cx} {tg l : Expr} {tl : TE} (hl : PE X l tl) : PI X tg l (iSeq X.K tl) := by
  refine ⟨fun pins s σ H R I h => ?_⟩
  refine thn (hl.run pins s σ H _ I h) fun v s1 ⟨x, H1, I1, r1, q1⟩ => ?_
  obtain ⟨a, xs, e, ⟨hq, q⟩ | ⟨hq, q⟩⟩ := q1
  · subst e
    cases r1
    obtain ⟨its, rv, p, hz⟩ := I1.list hq
    refine wpAny_pyIter_list p.isList ?_
    refine ⟨s1.heap.objs.size, [s1.heap.objs.size], _, _, H1, rfl, I1.kept (t' := s1.toks) fun b o e => Heap.get?_push_of_some _ e, turn_list a _, ⟨_, Heap.get?_push_size _ rfl, rfl, rfl⟩, fun b hb => ?_, q⟩
    have e : b = s1.heap.objs.size := by simpa using hb
    subst e
    exact I1.fpOk (Nat.le_refl _) (I1.hok.fresh (Nat.le_refl _))
  · subst e
    cases r1
    obtain ⟨its, rv, p, hz⟩ := I1.tuple hq
    refine wpAny_pyIter_tuple (show s1.heap.IsTuple a its.toArray from p) ?_
    refine ⟨s1.heap.objs.size, [s1.heap.objs.size], _, _, H1, rfl, I1.kept (t' := s1.toks) fun b o e => Heap.get?_push_of_some _ e, turn_tuple a _, ⟨_, Heap.get?_push_size _ rfl, rfl, rfl⟩, fun b hb => ?_, q⟩
    have e : b = s1.heap.objs.size := by simpa using hb
    subst e
    exact I1.fpOk (Nat.le_refl _) (I1.hok.fresh (Nat.le_refl _))
/-- sizes -/
def SzOk (H : Hp) : Prop := ∀ (a : Addr) (xs : List V), H a = some (.lst xs) ∨ H a = some (.tup xs) → xs.length ≤ sizeLine
theorem szOk {X : Cx} {pins : List (Addr × Obj)} {σ : L2.St} {H : Hp} {s : Shared} (I : Inv X pins σ H s) : SzOk H := fun a xs h => by
  rcases h with h | h
  · exact (I.hok a _ h).1
  · exact (I.hok a _ h).1
theorem pi_sz {X : Cx} {tg e : Expr} {wi : TI} (h : PI X tg e wi) : PI X tg e (fun σ H R => wi σ H fun J H1 => SzOk H1 → R J H1) := by
  refine ⟨fun pins s σ H R I hw => ?_⟩
  refine thn (h.run pins s σ H _ I hw) fun v s1 h1 => thn h1 fun itv s2 ⟨it, fp, tn, J, H', e1, I2, T, st, f, q⟩ => ?_
  exact ⟨it, fp, tn, J, H', e1, I2, T, st, f, q (szOk I2)⟩
/-- a sequence at a, of either kind -/
def Sq (b : Bool) (H : Hp) (a : Addr) (vs : List V) : Prop := H a = some (if b = true then HO.tup vs else HO.lst vs)
theorem Sq.x {b : Bool} {K : PySem.W.Frag} {a : Addr} {vs : List V} (h : Sq b H a vs) : SqX b K H a vs := by
  cases b
  · exact sq_l h
  · exact sq_t h
theorem Sq.sz {b : Bool} {a : Addr} {vs : List V} (h : Sq b H a vs) (z : SzOk H) : vs.length ≤ sizeLine := by
  cases b
  · exact z a vs (.inl h)
  · exact z a vs (.inr h)
theorem Sq.mono {b : Bool} {H' : Hp} {a : Addr} {vs : List V} (h : Sq b H a vs) (s : Same H H') : Sq b H' a vs := s _ _ h
/-- what a borrowed | a free thing that is walked is -/
theorem seq_cases {m : Bool} {v : V} {d : D} {ds : List D} (r : if m = true then Rp (hid H O) v d else RpB H (hid H O) v d) (h : seqD d = .ok ds) : ∃ a b vs, v = .ref a ∧ Sq b (if m = true then hid H O else H) a vs ∧ Sq b H a vs ∧ RpA (hid H O) vs ds := by
  cases m with
  | true =>
    rw [if_pos rfl] at r ⊢
    cases r with
    | lst e r => cases h; exact ⟨_, false, _, rfl, e, hid_sub _ _ e, r⟩
    | tup e r => cases h; exact ⟨_, true, _, rfl, e, hid_sub _ _ e, r⟩
    | _ => cases h
  | false =>
    rw [if_neg Bool.false_ne_true] at r ⊢
    cases r with
    | all r =>
      cases r with
      | lst e r => cases h; exact ⟨_, false, _, rfl, hid_sub _ _ e, hid_sub _ _ e, r⟩
      | tup e r => cases h; exact ⟨_, true, _, rfl, hid_sub _ _ e, hid_sub _ _ e, r⟩
      | _ => cases h
    | lst e r => cases h; exact ⟨_, false, _, rfl, e, e, r⟩
theorem seqD_cases (d : D) : (∃ ds, seqD d = .ok ds) ∨ seqD d = .bad := by
  cases d <;> first | exact .inl ⟨_, rfl⟩ | exact .inr rfl
theorem it_seq {K : PySem.W.Frag} {b : Bool} {Hs : Hp} {a : Addr} {vs : List V} {ds : List D} (h : Sq b Hs a vs) (r : RpA (hid H O) vs ds) : IterOk Hs H O (if b = true then Itt K a else Itl K a) ds := fun H' O' s1 s2 ok => by
  have h' := h.mono s1
  have r' := r.mono s2
  cases b with
  | true =>
    rw [if_pos rfl]
    have hq : SqT K H' a vs := sq_t h'
    refine ⟨fun i d e => ?_, fun i hi => ⟨vs, hq, by rw [r.length]; exact hi⟩⟩
    obtain ⟨v, e1, e2⟩ := r'.get e
    refine ⟨⟨vs, v, hq, e1⟩, fun x H'' y => ?_⟩
    obtain ⟨rfl, y⟩ := y
    have e3 := y vs hq
    rw [e1] at e3
    cases e3
    exact ⟨Same.refl _, e2⟩
  | false =>
    rw [if_neg Bool.false_ne_true]
    have hq : SqL K H' a vs := sq_l h'
    refine ⟨fun i d e => ?_, fun i hi => ⟨vs, hq, by rw [r.length]; exact hi⟩⟩
    obtain ⟨v, e1, e2⟩ := r'.get e
    refine ⟨⟨vs, v, hq, e1⟩, fun x H'' y => ?_⟩
    obtain ⟨rfl, y⟩ := y
    have e3 := y vs hq
    rw [e1] at e3
    cases e3
    exact ⟨Same.refl _, e2⟩
theorem new_tup {O' : List Addr} {T : Addr} {xs : List V} {es : List D} (ok : OkO H O') (nT : H T = none) (r : RpA (hid H O') xs es) : Same H (upd H T (.tup xs)) ∧ Rp (hid (upd H T (.tup xs)) O') (.ref T) (.tuple es) :=
  ⟨same_upd nT, .tup (hid_upd ok nT) (r.mono (hid_mono (same_upd nT)))⟩
theorem enumD_get : ∀ {ds : List D} {n i : Nat} {d : D}, (enumD n ds)[i]? = some d → ∃ e, ds[i]? = some e ∧ d = .tuple [.int ((n + i : Nat) : Int), e]
  | [], _, _, _, h => by simp [enumD] at h
  | x :: r, n, 0, d, h => by
    have h : some (PyData.tuple [.int (n : Int), x]) = some d := h
    cases h
    exact ⟨x, rfl, rfl⟩
  | x :: r, n, i + 1, d, h => by
    obtain ⟨e, h1, h2⟩ := enumD_get (ds := r) (n := n + 1) (i := i) (d := d) (by simpa [enumD] using h)
    exact ⟨e, by simpa using h1, by rw [h2, show n + 1 + i = n + (i + 1) by omega]⟩
theorem enumD_length : ∀ (ds : List D) (n : Nat), (enumD n ds).length = ds.length
  | [], _ => rfl
  | _ :: r, n => congrArg (· + 1) (enumD_length r (n + 1))
theorem it_enum {K : PySem.W.Frag} {b : Bool} {Hs : Hp} {a : Addr} {vs : List V} {ds : List D} (h : Sq b Hs a vs) (r : RpA (hid H O) vs ds) : IterOk Hs H O (if b = true then IteT K a else Ite K a) (enumD 0 ds) := fun H' O' s1 s2 ok => by
  have h' := h.mono s1
  have r' := r.mono s2
  have hlen := r.length
  cases b with
  | true =>
    rw [if_pos rfl]
    have hq : SqT K H' a vs := sq_t h'
    refine ⟨fun i d e => ?_, fun i hi => ⟨vs, hq, by rw [enumD_length] at hi; omega⟩⟩
    obtain ⟨e0, h1, rfl⟩ := enumD_get e
    obtain ⟨v, e1, e2⟩ := r'.get h1
    refine ⟨⟨vs, v, hq, e1⟩, fun x H'' y => ?_⟩
    obtain ⟨T, w, rfl, nT, rfl, y⟩ := y
    have e3 := y vs hq
    rw [e1] at e3
    cases e3
    rw [Nat.zero_add]
    exact new_tup ok nT (.cons (.int _) (.one e2))
  | false =>
    rw [if_neg Bool.false_ne_true]
    have hq : SqL K H' a vs := sq_l h'
    refine ⟨fun i d e => ?_, fun i hi => ⟨vs, hq, by rw [enumD_length] at hi; omega⟩⟩
    obtain ⟨e0, h1, rfl⟩ := enumD_get e
    obtain ⟨v, e1, e2⟩ := r'.get h1
    refine ⟨⟨vs, v, hq, e1⟩, fun x H'' y => ?_⟩
    obtain ⟨T, w, rfl, nT, rfl, y⟩ := y
    have e3 := y vs hq
    rw [e1] at e3
    cases e3
    rw [Nat.zero_add]
    exact new_tup ok nT (.cons (.int _) (.one e2))
theorem zipD_get : ∀ {xs ys : List D} {i : Nat} {d : D}, (zipD xs ys)[i]? = some d → ∃ e f, xs[i]? = some e ∧ ys[i]? = some f ∧ d = .tuple [e, f]
  | [], _, _, _, h => by simp [zipD] at h
  | _ :: _, [], _, _, h => by simp [zipD] at h
  | x :: xs, y :: ys, 0, d, h => by
    have h : some (PyData.tuple [x, y]) = some d := h
    cases h
    exact ⟨x, y, rfl, rfl, rfl⟩
  | x :: xs, y :: ys, i + 1, d, h => by
    obtain ⟨e, f, h1, h2, h3⟩ := zipD_get (xs := xs) (ys := ys) (i := i) (d := d) (by simpa [zipD] using h)
    exact ⟨e, f, by simpa using h1, by simpa using h2, h3⟩
theorem zipD_length : ∀ (xs ys : List D), (zipD xs ys).length = min xs.length ys.length
  | [], _ => by simp [zipD]
  | _ :: _, [] => by simp [zipD]
  | _ :: xs, _ :: ys => by simp [zipD, zipD_length xs ys]
theorem it_zip {K : PySem.W.Frag} {b c : Bool} {Hs : Hp} {a1 a2 : Addr} {vs ws : List V} {ds es : List D} (h : Sq b Hs a1 vs) (h2 : Sq c Hs a2 ws) (r : RpA (hid H O) vs ds) (r2 : RpA (hid H O) ws es) : IterOk Hs H O (ItzX b c K a1 a2) (zipD ds es) := fun H' O' s1 s2 ok => by
  have h' : SqX b K H' a1 vs := (h.mono s1).x
  have h2' : SqX c K H' a2 ws := (h2.mono s1).x
  have r' := r.mono s2
  have r2' := r2.mono s2
  have l1 := r.length
  have l2 := r2.length
  refine ⟨fun i d e => ?_, fun i hi => ⟨vs, ws, h', h2', by rw [zipD_length] at hi; omega⟩⟩
  obtain ⟨p, q, hp, hq, rfl⟩ := zipD_get e
  obtain ⟨v, e1, e2⟩ := r'.get hp
  obtain ⟨w, f1, f2⟩ := r2'.get hq
  refine ⟨⟨vs, ws, v, w, h', h2', e1, f1⟩, fun x H'' y => ?_⟩
  obtain ⟨T, v', w', rfl, nT, rfl, y1, y2⟩ := y
  have e3 := y1 vs h'
  have f3 := y2 ws h2'
  rw [e1] at e3
  rw [f1] at f3
  cases e3
  cases f3
  exact new_tup ok nT (.cons e2 (.one f2))
theorem rangeD_get : ∀ {n i : Nat} {a : Int} {d : D}, (rangeD a n)[i]? = some d → i < n ∧ d = .int (a + i)
  | 0, _, _, _, h => by simp [rangeD] at h
  | n + 1, 0, a, d, h => by
    have h : some (PyData.int a) = some d := h
    cases h
    exact ⟨Nat.succ_pos _, by simp⟩
  | n + 1, i + 1, a, d, h => by
    obtain ⟨h1, h2⟩ := rangeD_get (n := n) (i := i) (a := a + 1) (d := d) (by simpa [rangeD] using h)
    exact ⟨by omega, by rw [h2]; congr 1; push_cast; omega⟩
theorem rangeD_length : ∀ (n : Nat) (a : Int), (rangeD a n).length = n
  | 0, _ => rfl
  | n + 1, a => congrArg (· + 1) (rangeD_length n (a + 1))
theorem it_range {Hs : Hp} {a : Int} {n : Nat} : IterOk Hs H O (Itr a n) (rangeD a n) := fun H' O' s1 s2 ok => by
  refine ⟨fun i d e => ?_, fun i hi => by rw [rangeD_length] at hi; exact hi⟩
  obtain ⟨h1, rfl⟩ := rangeD_get e
  refine ⟨h1, fun x H'' y => ?_⟩
  obtain ⟨rfl, rfl⟩ := y
  exact ⟨Same.refl _, .int _⟩

/-- Jm: the judgement of what is walked (m: it is free) -/
def JM (G : Gx) (M : MC) (k : Nat) (own : List Nat) (m : Bool) (e : Expr) (f : Env → R D) : Prop := if m = true then JE G M k own e f else JB G M k own e f
abbrev relM (m : Bool) (O : List Addr) : Hp → V → D → Prop := fun H v d => if m = true then Rp (hid H O) v d else RpB H (hid H O) v d
theorem JM.at {m : Bool} {e : Expr} {f : Env → R D} (h : JM G M k own m e f) : ∀ X W, Good G M k W X → ∃ t, PE X e t ∧ ∀ σ H O env Q, EnvR own H O env σ → Post W G.cA σ H (relM m O) (f env) Q → t σ H Q := by
  cases m with
  | true => exact h
  | false => exact h
theorem JE.jm {m : Bool} {e : Expr} {f : Env → R D} (h : JE G M k own e f) : JM G M k own m e f := by
  cases m with
  | true => exact h
  | false => exact h.jb
theorem PostI.mono {m : Bool} {r : R (List D)} {Q : It → Hp → Prop} (h : PostI W cA σ H O m r Q) {H' : Hp} (s : Same H H') : PostI W cA σ H' O m r Q := by
  cases r with
  | ok ds => exact fun J H2 s2 q => h J H2 (s.trans s2) q
  | ex c => exact fun H2 s2 => h H2 (s.trans s2)
  | bad => exact h
theorem PostI.seq {m : Bool} {β α : Type} {rel : Hp → α → β → Prop} {r : R β} {f : β → R (List D)} {Q : It → Hp → Prop} {Q' : α → Hp → Prop} (h : PostI W cA σ H O m (r >>= f) Q)
    (k : ∀ d v H', r = .ok d → Same H H' → rel H' v d → PostI W cA σ H' O m (f d) Q → Q' v H') : Post W cA σ H rel r Q' := by
  cases r with
  | ok d => exact fun v H2 s2 q => k d v H2 rfl s2 q (PostI.mono h s2)
  | ex c => exact h
  | bad => exact h
theorem relM_mono {m : Bool} {H' : Hp} {v : V} {d : D} (s : Same H H') (r : relM m O H v d) : relM m O H' v d := by
  cases m with
  | true => exact Rp.mono (hid_mono s) r
  | false => exact RpB.mono r s (hid_mono s)
theorem ji_seq {m : Bool} {tg e : Expr} {f : Env → R D} (h : JM G M k own m e f) : JI G M k own m tg e (fun s => do let x ← f s; seqD x) := fun X W gd => by
  obtain ⟨t, p, q⟩ := h.at X W gd
  refine ⟨_, pi_sz (pi_seq p), fun σ H O env Q E z => q σ H O env _ E (PostI.seq z fun d v H1 _ s r z1 => ?_)⟩
  rcases seqD_cases d with ⟨ds, e⟩ | e
  · rw [e] at z1
    obtain ⟨a, b, vs, rfl, h1, h2, h3⟩ := seq_cases r e
    refine ⟨a, vs, rfl, ?_⟩
    have it := it_seq (K := X.K) h1 h3
    cases b with
    | true => exact .inr ⟨sq_t h2, fun hz => z1 _ _ (Same.refl _) (by rw [← h3.length]; exact h2.sz hz) it⟩
    | false => exact .inl ⟨sq_l h2, fun hz => z1 _ _ (Same.refl _) (by rw [← h3.length]; exact h2.sz hz) it⟩
  · rw [e] at z1
    exact z1.elim
theorem ji_enum {m : Bool} {elts : List Expr} {kk : Nat} {tpos p pos : Pos} {e : Expr} {f : Env → R D} (hg : gl M "enumerate" (Str.ofString "enumerate") = true) (hn : notStar e = true) (h : JM G M k own m e f) :
    JI G M k own m (.Tuple elts kk tpos) (.Call (.Name (Str.ofString "enumerate") p) [e] [] pos) (fun s => do let x ← f s; let xs ← seqD x; .ok (enumD 0 xs)) := fun X W gd => by
  obtain ⟨t, p, q⟩ := h.at X W gd
  refine ⟨_, pi_sz (pi_enumA (gl_of gd hg).2 (blt_in gd) p (star_cons hn _ _)), fun σ H O env Q E z => q σ H O env _ E (PostI.seq z fun d v H1 _ s r z1 => ?_)⟩
  rcases seqD_cases d with ⟨ds, e⟩ | e
  · rw [e] at z1
    obtain ⟨a, b, vs, rfl, h1, h2, h3⟩ := seq_cases r e
    refine ⟨a, vs, rfl, ?_⟩
    have it := it_enum (K := X.K) h1 h3
    cases b with
    | true => exact .inr ⟨sq_t h2, fun hz => z1 _ _ (Same.refl _) (by rw [enumD_length, ← h3.length]; exact h2.sz hz) it⟩
    | false => exact .inl ⟨sq_l h2, fun hz => z1 _ _ (Same.refl _) (by rw [enumD_length, ← h3.length]; exact h2.sz hz) it⟩
  · rw [e] at z1
    exact z1.elim
theorem ji_zip {m : Bool} {elts : List Expr} {kk : Nat} {tpos p pos : Pos} {e e2 : Expr} {f g : Env → R D} (hg : gl M "zip" (Str.ofString "zip") = true) (hn : notStar e = true) (hn2 : notStar e2 = true) (h : JM G M k own m e f) (h2 : JM G M k own m e2 g) :
    JI G M k own m (.Tuple elts kk tpos) (.Call (.Name (Str.ofString "zip") p) [e, e2] [] pos) (fun s => do let x ← f s; let y ← g s; let xs ← seqD x; let ys ← seqD y; .ok (zipD xs ys)) := fun X W gd => by
  obtain ⟨t, p, q⟩ := h.at X W gd
  obtain ⟨t2, p2, q2⟩ := h2.at X W gd
  refine ⟨_, pi_sz (pi_zipX (gl_of gd hg).2 (blt_in gd) p p2 (star_cons hn _ _) (star_cons hn2 _ _) (by rw [star_cons hn2] <;> rfl)), fun σ H O env Q E z => q σ H O env _ E (PostI.seq z fun d v H1 _ s r z1 => ?_)⟩
  refine q2 σ H1 O env _ (E.mono s) (PostI.seq z1 fun d2 v2 H2 _ s2 r2 z2 => ?_)
  rcases seqD_cases d with ⟨ds, e⟩ | e
  · rcases seqD_cases d2 with ⟨es, e'⟩ | e'
    · rw [e, e'] at z2
      obtain ⟨a, b, vs, rfl, h1, h2, h3⟩ := seq_cases (relM_mono s2 r) e
      obtain ⟨a', b', vs', rfl, h1', h2', h3'⟩ := seq_cases r2 e'
      exact ⟨b, b', a, a', vs, vs', rfl, rfl, h2.x, h2'.x, fun hz => z2 _ _ (Same.refl _) (by rw [zipD_length]; exact Nat.le_trans (Nat.min_le_left _ _) (by rw [← h3.length]; exact h2.sz hz)) (it_zip (K := X.K) h1 h1' h3 h3')⟩
    · rw [e, e'] at z2
      exact z2.elim
  · rw [e] at z2
    exact z2.elim
theorem rngD_of {i j : Int} {ds : List D} (h : listOf (rngD i j) = .ok ds) : ds = rangeD i (j - i).toNat ∧ -(2 ^ 62) ≤ i ∧ i < 2 ^ 62 ∧ -(2 ^ 62) ≤ j ∧ j < 2 ^ 62 ∧ (j - i).toNat ≤ 1000000 := by
  unfold rngD at h
  split at h
  · rename_i c
    cases h
    unfold small62 at c
    simp only [Bool.and_eq_true, decide_eq_true_eq] at c
    obtain ⟨⟨⟨c1, c2⟩, c3, c4⟩, c5⟩ := c
    exact ⟨rfl, by omega, by omega, by omega, by omega, by omega⟩
  · cases h
theorem rngD_cases (i j : Int) : (∃ ds, listOf (rngD i j) = .ok ds) ∨ listOf (rngD i j) = .bad := by
  unfold rngD
  split
  · exact .inl ⟨_, rfl⟩
  · exact .inr rfl
theorem ji_range {m : Bool} {tg e : Expr} {p pos : Pos} {f : Env → R D} (hg : gl M "range" (Str.ofString "range") = true) (hn : notStar e = true) (h : JB G M k own e f) :
    JI G M k own m tg (.Call (.Name (Str.ofString "range") p) [e] [] pos) (fun s => do let x ← f s; match x with | .int j => listOf (rngD 0 j) | _ => .bad) := fun X W gd => by
  obtain ⟨t, p, q⟩ := h X W gd
  refine ⟨_, pi_range1 (gl_of gd hg).2 (blt_in gd) (pa_cons p pa_nil (star_cons hn _ _)) (star_cons hn _ _), fun σ H O env Q E z => q σ H O env _ E (PostI.seq z fun d v H1 _ s r z1 => ?_)⟩
  cases d with
  | int j =>
    rcases rngD_cases 0 j with ⟨ds, e⟩ | e
    · obtain ⟨e1, _, _, e2, e3, e6⟩ := rngD_of e
      refine ⟨j, by rw [r.int], e2, e3, ?_⟩
      change PostI W G.cA σ H1 O m (listOf (rngD 0 j)) Q at z1
      rw [e, e1] at z1
      have z2 := z1 (Itr 0 (j - 0).toNat) H1 (Same.refl _) (by rw [rangeD_length]; exact line_le e6) it_range
      rw [Int.sub_zero] at z2
      exact z2
    · change PostI W G.cA σ H1 O m (listOf (rngD 0 j)) Q at z1
      rw [e] at z1
      exact z1.elim
  | _ => exact z1.elim
theorem ji_range2 {m : Bool} {tg e e2 : Expr} {p pos : Pos} {f g : Env → R D} (hg : gl M "range" (Str.ofString "range") = true) (hn : notStar e = true) (hn2 : notStar e2 = true) (h : JB G M k own e f) (h2 : JB G M k own e2 g) :
    JI G M k own m tg (.Call (.Name (Str.ofString "range") p) [e, e2] [] pos) (fun s => do let x ← f s; let y ← g s; match x, y with | .int i, .int j => listOf (rngD i j) | _, _ => .bad) := fun X W gd => by
  obtain ⟨t, p, q⟩ := h X W gd
  obtain ⟨t2, p2, q2⟩ := h2 X W gd
  refine ⟨_, pi_range2 (gl_of gd hg).2 (blt_in gd) (pa_cons p (pa_cons p2 pa_nil (star_cons hn2 _ _)) (star_cons hn _ _)) (by rw [star_cons hn, star_cons hn2] <;> rfl) (star_cons hn2 _ _), fun σ H O env Q E z => q σ H O env _ E (PostI.seq z fun d v H1 _ s r z1 => ?_)⟩
  refine q2 σ H1 O env _ (E.mono s) (PostI.seq z1 fun d2 v2 H2 _ s2 r2 z2 => ?_)
  cases d with
  | int i =>
    cases d2 with
    | int j =>
      rcases rngD_cases i j with ⟨ds, e⟩ | e
      · obtain ⟨e1, e2, e3, e4, e5, e6⟩ := rngD_of e
        refine ⟨i, j, by rw [r.int, r2.int], ⟨e2, e3, e4, e5⟩, ?_⟩
        change PostI W G.cA σ H2 O m (listOf (rngD i j)) Q at z2
        rw [e, e1] at z2
        exact z2 (Itr i (j - i).toNat) H2 (Same.refl _) (by rw [rangeD_length]; exact line_le e6) it_range
      · change PostI W G.cA σ H2 O m (listOf (rngD i j)) Q at z2
        rw [e] at z2
        exact z2.elim
    | _ => exact z2.elim
  | _ => exact z2.elim
end
end SF

namespace SF
open PySem PySem.Spec PyProof.Rows L2
variable [KS]
/-! ### calls of own functions -/
/-- what a function g promises -/
def spOf (cA : Nat → Addr) (g : Fn) : Sp := fun vs H Q E => ∃ (O : List Addr) (ds : List D), OkO H O ∧ RpA (hid H O) vs ds ∧ (match g ds with
  | .ok d => ∀ v H', Same H H' → Rp (hid H' O) v d → Q v H'
  | .ex c => ∀ H', Same H H' → E (.ref (cA c)) none H'
  | .bad => False)
/-- the function named s of the module keeps g's promise -/
def CallOk (G : Gx) (k : Nat) (s : String) (g : Fn) : Prop := ∃ (f : Addr) (fd : FuncData) (ps : List Str), G.mg (Str.ofString s) = some (.ref f) ∧ PySem.W.keepIn G.K (.ref f) = true ∧ Binds G.K fd ps [] ∧
  FnOk G.P G.w G.K G.mg G.base (L2.CX G.P G.w) k f fd ps (spOf G.cA g)
section
variable {X : Cx} {CX : CXT} {k : Nat} {f : Addr} {fd : FuncData} {ps : List Str} {sp : Sp} {E : L2.St → XK} {x : Str} {p pos : Pos} {t : TA}
theorem pe_call0S (F : FnOk X.prog X.w X.K X.mg X.base CX k f fd ps sp) (hr : Room k X.A) (hg : Gl X x) (hm : X.mg x = some (.ref f)) (hk : PySem.W.keepIn X.K (.ref f) = true) (hb : Binds X.K fd ps []) (hx : ∀ σ, PassesAt CX X σ (E σ))
    (hdb : (x == ("__debug__" : Str)) = false) : PE X (.Call (.Name x p) [] [] pos) (fun σ H Q => sp [] H Q (E σ)) := by
  refine ⟨fun pins s σ H Q I h => ?_⟩
  refine wpAny_Call_Name_kw (ld_glob I hg hm ?_ hdb)
  exact PySem.W.callWith_K0 I.kIn hk (run_fnSD (us := []) (vs := []) (dvs := []) F hr hb .nil (hx σ) I .nil h)
end
section
variable {G : Gx} {M : MC} {k : Nat} {own : List Nat}
theorem je_call {s : String} {g : Fn} {e : Expr} {es : List Expr} {p pos : Pos} {x : Str} {f : Env → R (List D)} (C : CallOk G k s g) (hg : gl M s x = true) (hd : (x == ("__debug__" : Str)) = false) (hn : (e :: es).all notStar = true) (h : JA G M k own (e :: es) f) :
    JE G M k own (.Call (.Name x p) (e :: es) [] pos) (fun s => do let ds ← f s; g ds) := fun X W gd => by
  obtain ⟨fa, fd, ps, h1, h2, h3, F⟩ := C
  obtain ⟨rfl, hgl⟩ := gl_of gd hg
  have F' : FnOk X.prog X.w X.K X.mg X.base (L2.CX X.prog X.w) k fa fd ps (spOf G.cA g) := by
    rw [gd.prog, gd.w, gd.K, gd.mg, gd.base]
    exact F
  have hm : X.mg (Str.ofString s) = some (.ref fa) := by rw [gd.mg]; exact h1
  have hk : PySem.W.keepIn X.K (.ref fa) = true := by rw [gd.K]; exact h2
  have hb : Binds X.K fd ps [] := by rw [gd.K]; exact h3
  obtain ⟨t, q1, q2⟩ := h X W gd
  have fin : ∀ {σ : L2.St} {H1 : Hp} {O : List Addr} {ds : List D} {vs : List V} {Q : VK}, OkO H1 O → RpA (hid H1 O) vs ds → Post W G.cA σ H1 (relD O) (g ds) Q → spOf G.cA g vs H1 Q (WE W σ) := fun {σ H1 O ds vs Q} ok r z => by
    refine ⟨O, ds, ok, r, ?_⟩
    cases e : g ds with
    | ok d => rw [e] at z; exact z
    | ex c => rw [e] at z; exact z
    | bad => rw [e] at z; exact z
  rw [List.all_cons, Bool.and_eq_true] at hn
  refine ⟨_, pe_callSD F' gd.room hgl hm hk hb .nil (fun σ => passAt gd.takes σ) q1 hd (star_cons hn.1 _ _) (backTo_plain _ _ hn.2), fun σ H O env Q E z => ?_⟩
  refine q2 σ H O env _ E (Post.seq z fun ds vs H1 _ s r z1 => ?_)
  rw [List.append_nil]
  exact fin (E.mono s).ok r z1
/-- without arguments -/
theorem je_call0 {s : String} {g : Fn} {p pos : Pos} {x : Str} (C : CallOk G k s g) (hg : gl M s x = true) (hd : (x == ("__debug__" : Str)) = false) :
    JE G M k own (.Call (.Name x p) [] [] pos) (fun _ => g []) := fun X W gd => by
  obtain ⟨fa, fd, ps, h1, h2, h3, F⟩ := C
  obtain ⟨rfl, hgl⟩ := gl_of gd hg
  have F' : FnOk X.prog X.w X.K X.mg X.base (L2.CX X.prog X.w) k fa fd ps (spOf G.cA g) := by
    rw [gd.prog, gd.w, gd.K, gd.mg, gd.base]
    exact F
  have hm : X.mg (Str.ofString s) = some (.ref fa) := by rw [gd.mg]; exact h1
  have hk : PySem.W.keepIn X.K (.ref fa) = true := by rw [gd.K]; exact h2
  have hb : Binds X.K fd ps [] := by rw [gd.K]; exact h3
  refine ⟨_, pe_call0S F' gd.room hgl hm hk hb (fun σ => passAt gd.takes σ) hd, fun σ H O env Q E z => ?_⟩
  refine ⟨O, [], E.ok, .nil, ?_⟩
  change Post W G.cA σ H (relD O) (g []) Q at z
  cases e : g [] with
  | ok d => rw [e] at z; exact z
  | ex c => rw [e] at z; exact z
  | bad => rw [e] at z; exact z
end

/-! ### a comprehension -/
/-- the names of a block -/
def relN (sc : List (Str × NameKind)) (names : List (Str × NameKind)) : List (Str × NameKind) := names.map fun (n, k) => if (k == .free && (true && sc.lookup n == some .cell)) then (n, .cell) else (n, k)
def MC.blk (M : MC) (scope : Scope) : MC := ⟨M.N, relN M.nm scope.names, fun x => scope.names.lookup x == some .cell⟩
def ownN (M : MC) (vs : List Nat) : List (Str × Nat) := vs.map fun i => (M.N.getD i ⟨#[]⟩, i)
def blkB (M : MC) (scope : Scope) (own : List (Str × Nat)) : Bool :=
  (match scope.kind with | .function => true | _ => false) && (scope.names.all fun y => decide (scope.names.lookup y.1 = some y.2)) && (own.all fun p => decide (M.N[p.2]? = some p.1)) &&
    (scope.names.all fun y => match y.2 with
      | .free => (match M.nm.lookup y.1 with | some .cell => true | some .free => true | _ => false)
      | .local => decide (y.1 ∈ own.map (·.1)) || decide (y.1 ∉ M.N)
      | .cell => decide (y.1 ∈ own.map (·.1)) || decide (y.1 ∉ M.N)
      | _ => true)
theorem blkB_ok {M : MC} {scope sc : Scope} {own : List (Str × Nat)} (h : blkB M scope own = true) (hs : sc.names = M.nm) : BlkOk M.N sc scope own := by
  unfold blkB at h
  rw [← hs] at h
  exact blkOk_by h
theorem ownN_snd (M : MC) (vs : List Nat) : (ownN M vs).map (·.2) = vs := by
  unfold ownN
  rw [List.map_map]
  exact List.map_id' _
variable {G : Gx} {M : MC} {k : Nat} {own : List Nat}
theorem good_blk {W : WX} {X : Cx} (g : Good G M k W X) {scope : Scope} (hk : scope.kind = .function) (s : Shared) (H : Hp) (C : Addr) (cl : List (Str × Addr)) (fp : List Addr) :
    Good G (M.blk scope) k (fun _ _ _ _ => False) (X.blk s H scope (compEnvC scope cl C X.env) fp) where
  prog := g.prog
  w := g.w
  K := g.K
  mg := g.mg
  base := g.base
  N := g.N
  nd := g.nd
  kind := hk
  nm := by
    show (relS scope X.env.scope).names = relN M.nm scope.names
    unfold relS relN
    rw [← g.nm]
    refine List.map_congr_left fun y _ => ?_
    obtain ⟨n, kd⟩ := y
    have e : (X.env.scope.kind == .function) = true := by rw [g.kind]; rfl
    simp only [e, Bool.true_and, Bool.and_true]
  fn := rfl
  calm := g.calm
  room := g.room
  takes := fun u s' ⟨_, _, _, _, _, _, _, _, _, _, _, _, _, _, _, _, w⟩ => w.elim
  blt := g.blt

/-! ### targets -/
def T.slots : T → List Nat
  | .name i => [i]
  | .tup is => is
def storeB (M : MC) (i : Nat) (x : Str) : Bool := decide (M.N[i]? = some x) && (decide (M.nm.lookup x = some .local) || (decide (M.nm.lookup x = some .cell) && M.fn x))
def storesB (M : MC) : List Nat → List Expr → Bool
  | [], [] => true
  | i :: is, .Name x _ :: es => storeB M i x && storesB M is es
  | _, _ => false
def tgB (M : MC) : T → Expr → Bool
  | .name i, .Name x _ => storeB M i x
  | .tup is, .Tuple es _ _ => storesB M is es
  | _, _ => false
def gNames : List Nat → TGs
  | [] => gNil
  | i :: is => gCons (gName i) (gNames is)
def gT (K : PySem.W.Frag) : T → TG
  | .name i => gName i
  | .tup is => gTup K is.length (gNames is)
theorem pg_store {W : WX} {X : Cx} (g : Good G M k W X) {i : Nat} {x : Str} {pos : Pos} (h : storeB M i x = true) : PG X (.Name x pos) (gName i) := by
  unfold storeB at h
  simp only [Bool.and_eq_true, Bool.or_eq_true, decide_eq_true_eq] at h
  obtain ⟨h1, h2⟩ := h
  have hi : X.N[i]? = some x := by rw [g.N]; exact h1
  have nd : X.N.Nodup := by rw [g.N]; exact g.nd
  rcases h2 with h2 | ⟨h2, h3⟩
  · have e : X.env.scope.names.lookup x = some .local := by rw [g.nm]; exact h2
    exact pg_name nd hi (.inl e) (.inr e)
  · have e : X.env.scope.names.lookup x = some .cell := by rw [g.nm]; exact h2
    exact pg_name nd hi (.inr e) (.inl (by rw [g.fn]; exact h3))
theorem assignEach_names (env : PySem.Env) : ∀ {is : List Nat} {es : List Expr}, storesB M is es = true → (assignEach es env).length = is.length ∧ (assignEach es env).findIdx? (·.1) = none
  | [], [], _ => ⟨rfl, rfl⟩
  | i :: is, e :: es, h => by
    cases e with
    | Name x p =>
      unfold storesB at h
      rw [Bool.and_eq_true] at h
      obtain ⟨h1, h2⟩ := assignEach_names env h.2
      refine ⟨congrArg (· + 1) h1, ?_⟩
      show ((false, assign (.Name x p) env) :: assignEach es env).findIdx? (·.1) = none
      rw [List.findIdx?_cons, h2]
      rfl
    | _ => cases h
  | [], _ :: _, h => by cases h
  | _ :: _, [], h => by cases h
theorem pgs_names {W : WX} {X : Cx} (g : Good G M k W X) : ∀ {is : List Nat} {es : List Expr}, storesB M is es = true → PGs X es (gNames is)
  | [], [], _ => pgs_nil
  | i :: is, e :: es, h => by
    cases e with
    | Name x p =>
      unfold storesB at h
      rw [Bool.and_eq_true] at h
      exact pgs_cons (pg_store g h.1) (pgs_names g h.2)
    | _ => cases h
  | [], _ :: _, h => by cases h
  | _ :: _, [], h => by cases h
theorem pg_T {W : WX} {X : Cx} (g : Good G M k W X) {t : T} {tg : Expr} (h : tgB M t tg = true) : PG X tg (gT X.K t) := by
  unfold tgB at h
  split at h
  · exact pg_store g h
  · rename_i is es kk pos
    obtain ⟨h1, h2⟩ := assignEach_names X.env h
    exact pg_tup g.calm (pgs_names g h) h1 h2
  · cases h
/-! slots -/
theorem getD_set {env : Env} {i j : Nat} {d e : D} (h : (env.set i (some d)).getD j none = some e) : (i = j ∧ d = e ∧ i < env.length) ∨ (i ≠ j ∧ env.getD j none = some e) := by
  by_cases hij : i = j
  · subst hij
    by_cases hi : i < env.length
    · left
      refine ⟨rfl, ?_, hi⟩
      rw [List.getD_eq_getElem?_getD, List.getElem?_set_self hi] at h
      exact Option.some.inj h
    · rw [List.getD_eq_getElem?_getD, List.getElem?_eq_none (by simpa using hi)] at h
      cases h
  · right
    refine ⟨hij, ?_⟩
    rw [List.getD_eq_getElem?_getD, List.getElem?_set_ne hij] at h
    rw [List.getD_eq_getElem?_getD]
    exact h
theorem EnvR.set {H : Hp} {O : List Addr} {env : Env} {σ : L2.St} (E : EnvR own H O env σ) {i : Nat} {v : V} {d : D} (hi : i ∉ own) (r : Rp (hid H O) v d) : EnvR own H O (env.set i (some d)) (σ.set i (some v)) where
  free := fun j e hj h => by
    rcases getD_set h with ⟨rfl, rfl, hl⟩ | ⟨hne, h'⟩
    · exact ⟨v, List.getElem?_set_self (by rw [← E.len]; exact hl), r⟩
    · obtain ⟨w, h1, h2⟩ := E.free j e hj h'
      exact ⟨w, by rw [List.getElem?_set_ne hne]; exact h1, h2⟩
  held := fun j e hj h => by
    rcases getD_set h with ⟨rfl, rfl, hl⟩ | ⟨hne, h'⟩
    · exact absurd hj hi
    · obtain ⟨a, vs, ds, h1, h2⟩ := E.held j e hj h'
      exact ⟨a, vs, ds, by rw [List.getElem?_set_ne hne]; exact h1, h2⟩
  ok := E.ok
  len := by rw [List.length_set, List.length_set]; exact E.len
theorem wipeE_length (s : Env) : ∀ ks : List Nat, (wipeE s ks).length = s.length
  | [] => rfl
  | k :: ks => by unfold wipeE; rw [List.length_set, wipeE_length s ks]
theorem wipeE_get {s : Env} {i : Nat} {d : D} : ∀ {ks : List Nat}, (wipeE s ks).getD i none = some d → s.getD i none = some d ∧ i ∉ ks
  | [], h => ⟨h, by simp⟩
  | k :: ks, h => by
    unfold wipeE at h
    by_cases hi : k = i
    · subst hi
      by_cases hk : k < (wipeE s ks).length
      · rw [List.getD_eq_getElem?_getD, List.getElem?_set_self hk] at h; cases h
      · rw [List.getD_eq_getElem?_getD, List.getElem?_eq_none (by simpa using hk)] at h; cases h
    · rw [List.getD_eq_getElem?_getD, List.getElem?_set_ne hi, ← List.getD_eq_getElem?_getD] at h
      obtain ⟨h1, h2⟩ := wipeE_get h
      exact ⟨h1, by simp only [List.mem_cons, not_or]; exact ⟨fun e => hi e.symm, h2⟩⟩
theorem wipe_at {σ : L2.St} {i : Nat} : ∀ {vs : List Nat}, i ∉ vs → (wipe σ vs)[i]? = σ[i]?
  | [], _ => rfl
  | v :: vs, h => by
    unfold wipe
    rw [List.getElem?_set_ne (fun e => h (by rw [e]; exact List.mem_cons_self))]
    exact wipe_at fun m => h (List.mem_cons_of_mem _ m)
theorem EnvR.wipe {H : Hp} {O : List Addr} {env : Env} {σ : L2.St} (E : EnvR own H O env σ) (vs : List Nat) : EnvR own H O (wipeE env vs) (L2.wipe σ vs) where
  free := fun j e hj h => by
    obtain ⟨h1, h2⟩ := wipeE_get h
    obtain ⟨v, h3, h4⟩ := E.free j e hj h1
    exact ⟨v, by rw [wipe_at h2]; exact h3, h4⟩
  held := fun j e hj h => by
    obtain ⟨h1, h2⟩ := wipeE_get h
    obtain ⟨a, vs', ds, h3, h4⟩ := E.held j e hj h1
    exact ⟨a, vs', ds, by rw [wipe_at h2]; exact h3, h4⟩
  ok := E.ok
  len := by rw [wipeE_length, wipe_length]; exact E.len
/-- in another heap, with more hidden -/
theorem EnvR.step {H H' : Hp} {O O' : List Addr} {env : Env} {σ : L2.St} (E : EnvR own H O env σ) (s : Same H H') (s2 : Same (hid H O) (hid H' O')) (hO : ∀ a ∈ O, a ∈ O') (ok : OkO H' O') : EnvR own H' O' env σ where
  free := fun j e hj h => let ⟨v, h1, h2⟩ := E.free j e hj h; ⟨v, h1, h2.mono s2⟩
  held := fun j e hj h => let ⟨a, vs, ds, h1, h2, h3, h4, h5⟩ := E.held j e hj h; ⟨a, vs, ds, h1, h2, s _ _ h3, hO a h4, h5.mono s2⟩
  ok := ok
  len := E.len
theorem wipe_set {σ : L2.St} {i : Nat} {x : Option V} : ∀ {vs : List Nat}, i ∈ vs → L2.wipe (σ.set i x) vs = L2.wipe σ vs
  | v :: vs, h => by
    unfold L2.wipe
    by_cases hv : i = v
    · subst hv
      by_cases hm : i ∈ vs
      · rw [wipe_set hm]
      · have e : ∀ ws : List Nat, i ∉ ws → L2.wipe (σ.set i x) ws = (L2.wipe σ ws).set i x := fun ws => by
          induction ws with
          | nil => intro _; rfl
          | cons w ws ih =>
            intro hn
            unfold L2.wipe
            rw [ih fun m => hn (List.mem_cons_of_mem _ m)]
            exact List.set_comm _ _ fun e => hn (by rw [e]; exact List.mem_cons_self)
        rw [e vs hm, List.set_set]
    · rw [wipe_set ((List.mem_cons.mp h).resolve_left hv)]
theorem wipe_wipe {σ : L2.St} (ws : List Nat) : ∀ {vs : List Nat}, (∀ i ∈ vs, i ∈ ws) → L2.wipe (L2.wipe σ vs) ws = L2.wipe σ ws
  | [], _ => rfl
  | v :: vs, h => by
    show L2.wipe ((L2.wipe σ vs).set v none) ws = _
    rw [wipe_set (h v List.mem_cons_self)]
    exact wipe_wipe ws fun i m => h i (List.mem_cons_of_mem _ m)
theorem gNames_ok {H : Hp} {O : List Addr} {Q : L2.St → Hp → Prop} : ∀ {is : List Nat} {vs : List V} {ds : List D} {env env' : Env} {σ : L2.St}, EnvR own H O env σ → (∀ i ∈ is, i ∉ own) → RpA (hid H O) vs ds → setAll is ds env = .ok env' →
    (∀ σ', EnvR own H O env' σ' → (∀ ws : List Nat, (∀ i ∈ is, i ∈ ws) → L2.wipe σ' ws = L2.wipe σ ws) → Q σ' H) → gNames is vs σ H Q
  | [], _, _, env, env', σ, E, _, .nil, h, q => by
    cases h
    exact ⟨rfl, q σ E fun _ _ => rfl⟩
  | [], _, _, _, _, _, _, _, .cons _ _, h, _ => by cases h
  | _ :: _, _, _, _, _, _, _, _, .nil, h, _ => by cases h
  | i :: is, _, _, env, env', σ, E, hn, .cons r t, h, q => by
    refine ⟨_, _, rfl, gNames_ok (is := is) (E.set (hn i List.mem_cons_self) r) (fun j m => hn j (List.mem_cons_of_mem _ m)) t h fun σ' E' hw => q σ' E' fun ws hws => ?_⟩
    rw [hw ws fun j m => hws j (List.mem_cons_of_mem _ m)]
    exact wipe_set (hws i List.mem_cons_self)
theorem gT_ok {K : PySem.W.Frag} {H : Hp} {O : List Addr} {Q : L2.St → Hp → Prop} {t : T} {v : V} {d : D} {env env' : Env} {σ : L2.St} (E : EnvR own H O env σ) (hn : ∀ i ∈ t.slots, i ∉ own) (r : Rp (hid H O) v d) (h : bindT t d env = .ok env')
    (q : ∀ σ', EnvR own H O env' σ' → (∀ ws : List Nat, (∀ i ∈ t.slots, i ∈ ws) → L2.wipe σ' ws = L2.wipe σ ws) → Q σ' H) : gT K t v σ H Q := by
  cases t with
  | name i =>
    cases h
    exact q _ (E.set (hn i List.mem_cons_self) r) fun ws hw => wipe_set (hw i List.mem_cons_self)
  | tup is =>
    cases d with
    | tuple ds =>
      change (if is.length = ds.length then setAll is ds env else .bad) = .ok env' at h
      split at h
      · rename_i hl
        cases r with
        | tup e r =>
          refine ⟨_, _, rfl, sq_t (hid_sub _ _ e), by rw [r.length, hl], gNames_ok E hn r h q⟩
      · cases h
    | _ => cases h
section
variable {G : Gx} {M : MC} {k : Nat} {own : List Nat} {W : WX} {H : Hp} {O : List Addr} {σ : L2.St}
/-- the reading that does for all contexts of a block -/
def tDn {α β : Type} (G : Gx) (own : List Nat) (rel : List Addr → Hp → α → β → Prop) (f : Env → R β) : L2.St → Hp → (α → Hp → Prop) → Prop := fun σ H Q => ∃ O env, EnvR own H O env σ ∧ Post (fun _ _ _ _ => False) G.cA σ H (rel O) (f env) Q
theorem PE.weak {X : Cx} {e : Expr} {t t' : TE} (h : PE X e t) (w : ∀ σ H Q, t' σ H Q → t σ H Q) : PE X e t' := ⟨fun pins s σ H Q I q => h.run pins s σ H Q I (w σ H Q q)⟩
theorem PT.weak {X : Cx} {e : Expr} {t t' : TT} (h : PT X e t) (w : ∀ σ H Q, t' σ H Q → t σ H Q) : PT X e t' := ⟨fun pins s σ H Q I q => h.run pins s σ H Q I (w σ H Q q)⟩
theorem JE.can {X : Cx} {e : Expr} {f : Env → R D} (h : JE G M k own e f) (g : Good G M k (fun _ _ _ _ => False) X) : PE X e (tDn G own relD f) := by
  obtain ⟨t, p, q⟩ := h X _ g
  exact PE.weak p fun σ H Q ⟨O, env, E, z⟩ => q σ H O env Q E z
theorem JT.can {X : Cx} {e : Expr} {f : Env → R Bool} (h : JT G M k own e f) (g : Good G M k (fun _ _ _ _ => False) X) : PT X e (tDn G own (fun _ => relT) f) := by
  obtain ⟨t, p, q⟩ := h X _ g
  exact PT.weak p fun σ H Q ⟨O, env, E, z⟩ => q σ H O env Q E z
def foldOk : Expr → Bool
  | .Name .. => true
  | .Call .. => true
  | .Subscript .. => true
  | .Tuple .. => true
  | .List .. => true
  | .ListComp .. => true
  | .BinOp .. => true
  | _ => false
theorem foldOk_of {e : Expr} (h : foldOk e = true) (env : PySem.Env) (x : Value) : foldedSetIterable e env x = pure x := by
  cases e <;> first | rfl | cases h
theorem lcD_cases (f : D → R (Option D)) : ∀ xs : List D, (∃ ys, lcD f xs = .ok ys) ∨ lcD f xs = .bad
  | [] => .inl ⟨[], rfl⟩
  | x :: r => by
    unfold lcD
    rcases lcD_cases f r with ⟨ys, e⟩ | e <;> cases f x with
    | ok o => cases o <;> rw [e] <;> first | exact .inl ⟨_, rfl⟩ | exact .inr rfl
    | ex c => exact .inr rfl
    | bad => exact .inr rfl
theorem lcD_step {f : D → R (Option D)} {x : D} {r ys : List D} (h : lcD f (x :: r) = .ok ys) : (∃ y zs, f x = .ok (some y) ∧ lcD f r = .ok zs ∧ ys = y :: zs) ∨ (f x = .ok none ∧ lcD f r = .ok ys) := by
  unfold lcD at h
  cases e : f x with
  | ok o =>
    rw [e] at h
    cases o with
    | none => exact .inr ⟨rfl, h⟩
    | some y =>
      cases e2 : lcD f r with
      | ok zs =>
        rw [e2] at h
        cases h
        exact .inl ⟨y, zs, rfl, rfl, rfl⟩
      | ex c => rw [e2] at h; cases h
      | bad => rw [e2] at h; cases h
  | ex c => rw [e] at h; cases h
  | bad => rw [e] at h; cases h
theorem lcF_some {t : T} {vs : List Nat} {fc : Env → R Bool} {fe : Env → R D} {s : Env} {x y : D} (h : lcF t vs fc fe s x = .ok (some y)) : ∃ s', bindT t x (wipeE s vs) = .ok s' ∧ fc s' = .ok true ∧ fe s' = .ok y := by
  unfold lcF at h
  cases e : bindT t x (wipeE s vs) with
  | ok s' =>
    rw [e, ok_bind] at h
    cases e2 : fc s' with
    | ok b =>
      rw [e2, ok_bind] at h
      cases b with
      | true =>
        rw [if_pos rfl] at h
        cases e3 : fe s' with
        | ok z => rw [e3] at h; cases h; exact ⟨s', rfl, e2, e3⟩
        | ex c => rw [e3] at h; cases h
        | bad => rw [e3] at h; cases h
      | false => cases h
    | ex c => rw [e2] at h; cases h
    | bad => rw [e2] at h; cases h
  | ex c => rw [e] at h; cases h
  | bad => rw [e] at h; cases h
theorem lcF_none {t : T} {vs : List Nat} {fc : Env → R Bool} {fe : Env → R D} {s : Env} {x : D} (h : lcF t vs fc fe s x = .ok none) : ∃ s', bindT t x (wipeE s vs) = .ok s' ∧ fc s' = .ok false := by
  unfold lcF at h
  cases e : bindT t x (wipeE s vs) with
  | ok s' =>
    rw [e, ok_bind] at h
    cases e2 : fc s' with
    | ok b =>
      rw [e2, ok_bind] at h
      cases b with
      | true =>
        rw [if_pos rfl] at h
        cases e3 : fe s' with
        | ok z => rw [e3] at h; cases h
        | ex c => rw [e3] at h; cases h
        | bad => rw [e3] at h; cases h
      | false => exact ⟨s', rfl, e2⟩
    | ex c => rw [e2] at h; cases h
    | bad => rw [e2] at h; cases h
  | ex c => rw [e] at h; cases h
  | bad => rw [e] at h; cases h
def IfOk (G : Gx) (M : MC) (k : Nat) (own : List Nat) (ifs : List Expr) (fc : Env → R Bool) : Prop := (ifs = [] ∧ ∀ s, fc s = .ok true) ∨ ∃ c, ifs = [c] ∧ JT G M k own c fc
theorem IfOk.can {X : Cx} {ifs : List Expr} {fc : Env → R Bool} (h : IfOk G M k own ifs fc) (g : Good G M k (fun _ _ _ _ => False) X) : PTs X ifs (tDn G own (fun _ => relT) fc) := by
  rcases h with ⟨rfl, h⟩ | ⟨c, rfl, h⟩
  · refine ⟨fun pins s σ H Q I ⟨O, env, E, z⟩ => pts_nil.run pins s σ H Q I ?_⟩
    rw [h env] at z
    exact z true H (Same.refl _) rfl
  · exact pts_one (h.can g)
/-- what is wanted of a new list -/
def PostL (W : WX) (cA : Nat → Addr) (σ : L2.St) (H : Hp) (O : List Addr) (r : R (List D)) (Q : V → Hp → Prop) : Prop := match r with
  | .ok ds => ∀ p vs H', Same H H' → H p = none → H' p = some (.lst vs) → RpA (hid H' (p :: O)) vs ds → Q (.ref p) H'
  | .ex c => ∀ H', Same H H' → W (.ref (cA c)) none σ H'
  | .bad => False
theorem post_l {cA : Nat → Addr} {r : R (List D)} {Q : V → Hp → Prop} (ok : OkO H O) (z : Post W cA σ H (relD O) (do let ys ← r; .ok (.list ys)) Q) : PostL W cA σ H O r Q := by
  cases r with
  | ok ds => exact fun p vs H' s hp hv r => z _ H' s (.lst (hid_at (ok.new hp) hv) (r.mono (hid_anti fun a m => List.mem_cons_of_mem _ m)))
  | ex c => exact z
  | bad => exact z
/-- fresh ahead is fresh before -/
theorem fresh_of {H H1 : Hp} {p : Addr} (s : Same H H1) (h : H1 p = none) : H p = none := by
  cases e : H p with
  | none => rfl
  | some o =>
    rw [s p o e] at h
    cases h
theorem PostL.new {cA : Nat → Addr} {ds : List D} {Q : V → Hp → Prop} {H1 : Hp} (z : PostL W cA σ H O (.ok ds) Q) (s : Same H H1) {vs : List V} (r : RpA (hid H1 O) vs ds) {p : Addr} (hp : H1 p = none) : Q (.ref p) (upd H1 p (.lst vs)) :=
  z p vs _ (s.trans (same_upd hp)) (fresh_of s hp) upd_same (r.mono fun b o hb => by
    obtain ⟨n, hb⟩ := hid_some hb
    have hne : b ≠ p := fun e => by rw [e, hp] at hb; cases hb
    refine hid_at (fun m => ?_) (by rw [upd_ne hne]; exact hb)
    rcases List.mem_cons.mp m with e | m
    · exact hne e
    · exact n m)
/-- what the whole of it tells -/
theorem lc_core2 {m : Bool} {t : T} {vs : List Nat} {fc : Env → R Bool} {fe : Env → R D} {env : Env} {wi : TI} {K : PySem.W.Frag} {xs : R (List D)} {Q : VK} (hsl : ∀ i ∈ t.slots, i ∈ vs ∧ i ∉ own) (E : EnvR own H O env σ)
    (hi : ∀ R, PostI W G.cA σ H O m xs R → wi σ H R) (z : PostL W G.cA σ H O (do let xs ← xs; lcD (lcF t vs fc fe env) xs) Q) :
    tLc wi (gT K t) (tDn G own (fun _ => relT) fc) (tDn G own relD fe) vs σ H Q := by
  refine hi _ ?_
  cases xs with
  | bad => exact z.elim
  | ex c => exact z
  | ok xs =>
    intro J H1 s1 hlen it D hD
    rw [ok_bind] at z
    rcases lcD_cases (lcF t vs fc fe env) xs with ⟨ys, ey⟩ | ey
    · rw [ey] at z
      have nO : D ∉ O := E.ok.mono s1 |>.new hD
      -- what is known of a later heap
      have grow : ∀ {H' : Hp} {acc : List V}, Same H1 H' → H' D = some (.lst acc) → Same (hid H1 O) (hid H' (D :: O)) ∧ OkO H' (D :: O) := fun {H' acc} s e => by
        refine ⟨fun b o hb => ?_, fun a ha => ?_⟩
        · obtain ⟨n, hb⟩ := hid_some hb
          refine hid_at (fun m => ?_) (s b o hb)
          rcases List.mem_cons.mp m with rfl | m
          · rw [hD] at hb; cases hb
          · exact n m
        · rcases List.mem_cons.mp ha with rfl | ha
          · exact ⟨_, e⟩
          · exact (E.ok.mono s1).mono s a ha
      refine ⟨fun i m H' => m = xs.length - i ∧ i ≤ xs.length ∧ Same H1 H' ∧ ∃ acc y1 y2, H' D = some (.lst acc) ∧ RpA (hid H' (D :: O)) acc y1 ∧ lcD (lcF t vs fc fe env) (xs.drop i) = .ok y2 ∧ ys = y1 ++ y2 ∧ acc.length ≤ i,
        ⟨xs.length, by simp, Nat.zero_le _, same_upd hD, [], [], ys, upd_same, .nil, by rw [List.drop_zero]; exact ey, rfl, Nat.le_refl _⟩, ?_⟩
      rintro i m H' ⟨rfl, hi, s2, acc, y1, y2, eD, racc, el, eys, hacc⟩
      obtain ⟨g1, g2⟩ := grow s2 eD
      have hs : Same (if m = true then hid H1 O else H1) H' := by
        by_cases hm : m = true
        · rw [if_pos hm]; exact fun b o h => s2 b o (hid_sub b o h)
        · rw [if_neg hm]; exact s2
      obtain ⟨go, stop⟩ := it H' (D :: O) hs g1 g2
      by_cases hlt : i < xs.length
      · obtain ⟨h1, h2⟩ := go i xs[i] (List.getElem?_eq_getElem hlt)
        rw [List.drop_eq_getElem_cons hlt] at el
        refine .inr ⟨h1, fun H2 => Same H1 H2 ∧ ∃ acc y1 y2, H2 D = some (.lst acc) ∧ RpA (hid H2 (D :: O)) acc y1 ∧ lcD (lcF t vs fc fe env) (xs.drop (i + 1)) = .ok y2 ∧ ys = y1 ++ y2 ∧ acc.length ≤ i + 1,
          fun H2 hN => ⟨xs.length - (i + 1), by omega, rfl, hlt, hN⟩, fun x H2 hy => ?_⟩
        obtain ⟨s3, rx⟩ := h2 x H2 hy
        have E2 : EnvR own H2 (D :: O) (wipeE env vs) (L2.wipe σ vs) := (E.wipe vs).step ((s1.trans s2).trans s3) (fun b o h => hid_mono s3 b o (g1 b o (hid_mono s1 b o h))) (fun a ha => List.mem_cons_of_mem _ ha) (g2.mono s3)
        have racc2 := racc.mono (hid_mono s3)
        have eD2 := s3 _ _ eD
        have fin : ∀ {H3 : Hp}, Same H2 H3 → lcD (lcF t vs fc fe env) (xs.drop (i + 1)) = .ok y2 → Same H1 H3 ∧ ∃ acc y1 y2, H3 D = some (.lst acc) ∧ RpA (hid H3 (D :: O)) acc y1 ∧ lcD (lcF t vs fc fe env) (xs.drop (i + 1)) = .ok y2 ∧ ys = y1 ++ y2 ∧ acc.length ≤ i + 1 := fun {H3} s4 e =>
          ⟨(s2.trans s3).trans s4, acc, y1, y2, s4 _ _ eD2, racc2.mono (hid_mono s4), e, eys, by omega⟩
        rcases lcD_step el with ⟨y, zs, f1, f2, rfl⟩ | ⟨f1, f2⟩
        · obtain ⟨s', b1, b2, b3⟩ := lcF_some f1
          refine gT_ok (env' := s') E2 (fun j hj => (hsl j hj).2) rx b1 fun σ' E' hw => ⟨?_, ?_⟩
          · rw [hw vs fun j hj => (hsl j hj).1]
            exact wipe_wipe vs fun _ h => h
          · refine ⟨D :: O, s', E', ?_⟩
            rw [b2]
            intro b H3 s4 hb
            cases (show b = true from hb)
            rw [if_pos rfl]
            refine ⟨D :: O, s', E'.mono s4, ?_⟩
            rw [b3]
            intro v H4 s5 rv
            have s45 := s4.trans s5
            have eD4 := s45 _ _ eD2
            refine ⟨acc, eD4, Nat.lt_of_lt_of_le (Nat.lt_of_le_of_lt hacc hlt) hlen, fun b o hb => ?_, acc ++ [v], y1 ++ [y], zs, upd_same, ?_, f2, by rw [eys, List.append_assoc] <;> rfl, by rw [List.length_append]; simpa using hacc⟩
            · by_cases e : b = D
              · rw [e, hD] at hb; cases hb
              · rw [upd_ne e]
                exact s45 _ _ (s3 _ _ (s2 _ _ hb))
            · rw [hid_write List.mem_cons_self]
              exact (racc2.mono (hid_mono s45)).append (.one rv)
        · obtain ⟨s', b1, b2⟩ := lcF_none f1
          refine gT_ok (env' := s') E2 (fun j hj => (hsl j hj).2) rx b1 fun σ' E' hw => ⟨?_, ?_⟩
          · rw [hw vs fun j hj => (hsl j hj).1]
            exact wipe_wipe vs fun _ h => h
          · refine ⟨D :: O, s', E', ?_⟩
            rw [b2]
            intro b H3 s4 hb
            cases (show b = false from hb)
            rw [if_neg Bool.false_ne_true]
            exact fin s4 f2
      · have e : i = xs.length := by omega
        subst e
        rw [List.drop_length] at el
        cases el
        rw [List.append_nil] at eys
        subst eys
        exact .inl ⟨stop _ (Nat.le_refl _), z D acc H' (s1.trans s2) (fresh_of s1 hD) eD racc⟩
    · rw [ey] at z
      exact z.elim
/-- all that a comprehension's text must be -/
structure LcOk (G : Gx) (M : MC) (k : Nat) (own : List Nat) (m : Bool) (elt tg iter : Expr) (ifs : List Expr) (scope : Scope) (t : T) (vs : List Nat) (fit : Env → R (List D)) (fc : Env → R Bool) (fe : Env → R D) : Prop where
  hi : JI G M k own m tg iter fit
  hb : blkB M scope (ownN M vs) = true
  ht : tgB (M.blk scope) t tg = true
  hsl : ∀ i ∈ t.slots, i ∈ vs ∧ i ∉ own
  hc : IfOk G (M.blk scope) k own ifs fc
  he : JE G (M.blk scope) k own elt fe
  hf : foldOk iter = true
theorem LcOk.tl {m : Bool} {elt tg iter : Expr} {ifs : List Expr} {scope : Scope} {t : T} {vs : List Nat} {fit : Env → R (List D)} {fc : Env → R Bool} {fe : Env → R D} (L : LcOk G M k own m elt tg iter ifs scope t vs fit fc fe) :
    ∀ X W, Good G M k W X → ∃ tt : TE, (∀ pos, PE X (.ListComp elt [⟨tg, iter, ifs, 0⟩] scope pos) tt) ∧
      (∀ (i : Nat) (y : Str) (py pos spos : Pos), X.N[i]? = some y → X.env.scope.names.lookup y = some .local → swapsWith (.ListComp elt [⟨tg, iter, ifs, 0⟩] scope pos) (some (.Name y py)) spos.line X.env = pure true →
        PS X (.Assign [.Name y py] (.ListComp elt [⟨tg, iter, ifs, 0⟩] scope pos) spos) (tAsg tt (gName i))) ∧
      ∀ σ H O env Q, EnvR own H O env σ → PostL W G.cA σ H O (do let xs ← fit env; lcD (lcF t vs fc fe env) xs) Q → tt σ H Q := fun X W gd => by
  obtain ⟨wi, p, q⟩ := L.hi X W gd
  have ok : BlkOk X.N X.env.scope scope (ownN M vs) := by
    rw [gd.N]
    exact blkB_ok L.hb gd.nm
  have hk := ok.kind
  have nd : X.N.Nodup := by rw [gd.N]; exact gd.nd
  have h1 := fun pos => pe_lc (pos := pos) (g := gT X.K t) gd.calm nd p ok (fun s H C cl fp => pg_T (good_blk gd hk s H C cl fp) L.ht) (fun s H C cl fp => L.hc.can (good_blk gd hk s H C cl fp)) (fun s H C cl fp => L.he.can (good_blk gd hk s H C cl fp)) fun x => foldOk_of L.hf X.env x
  have h2 := fun (i : Nat) (y : Str) (py pos spos : Pos) (hy : X.N[i]? = some y) (hyl : X.env.scope.names.lookup y = some .local) hsw => ps_setLc (i := i) (y := y) (py := py) (pos := pos) (spos := spos) (g := gT X.K t) gd.calm nd hy hyl hsw p ok (fun s H C cl fp => pg_T (good_blk gd hk s H C cl fp) L.ht) (fun s H C cl fp => L.hc.can (good_blk gd hk s H C cl fp)) (fun s H C cl fp => L.he.can (good_blk gd hk s H C cl fp)) fun x => foldOk_of L.hf X.env x
  rw [ownN_snd] at h1 h2
  exact ⟨_, h1, h2, fun σ H O env Q E z => lc_core2 L.hsl E (fun R hR => q σ H O env R E hR) z⟩
theorem lcden {fit : R (List D)} {g : List D → R (List D)} : (do let xs ← fit; let ys ← g xs; .ok (.list ys) : R D) = (do let ys ← (do let xs ← fit; g xs); .ok (.list ys)) := by
  cases fit <;> rfl
theorem je_lc {m : Bool} {elt tg iter : Expr} {ifs : List Expr} {scope : Scope} {pos : Pos} {t : T} {vs : List Nat} {fit : Env → R (List D)} {fc : Env → R Bool} {fe : Env → R D} (L : LcOk G M k own m elt tg iter ifs scope t vs fit fc fe) :
    JE G M k own (.ListComp elt [⟨tg, iter, ifs, 0⟩] scope pos) (fun s => do let xs ← fit s; let ys ← lcD (lcF t vs fc fe s) xs; .ok (.list ys)) := fun X W gd => by
  obtain ⟨tt, h1, _, q⟩ := L.tl X W gd
  refine ⟨tt, h1 pos, fun σ H O env Q E z => q σ H O env Q E (post_l E.ok ?_)⟩
  rw [← lcden]
  exact z
end
/-! ### own lists lent to a call -/
mutual
theorem Rp.lend {H : Hp} {O O' : List Addr} (h : ∀ a ∈ O, a ∈ O' ∨ ∃ vs, H a = some (.lst vs)) : ∀ {v : V} {d : D}, Rp (hid H O') v d → noList d = true → Rp (hid H O) v d
  | _, _, .non, _ => .non
  | _, _, .bl b, _ => .bl b
  | _, _, .int i, _ => .int i
  | _, _, .str x, _ => .str x
  | _, _, .lst e r, c => by simp [noList] at c
  | _, _, .tup e r, c => by
    obtain ⟨n, e'⟩ := hid_some e
    refine .tup (hid_at (fun m => ?_) e') (RpA.lend h r (by simpa [noList] using c))
    rcases h _ m with m | ⟨vs, e2⟩
    · exact n m
    · rw [e'] at e2; cases e2
  | _, _, .scr e, c => by simp [noList] at c
  | _, _, .scrK e, c => by simp [noList] at c
theorem RpA.lend {H : Hp} {O O' : List Addr} (h : ∀ a ∈ O, a ∈ O' ∨ ∃ vs, H a = some (.lst vs)) : ∀ {vs : List V} {ds : List D}, RpA (hid H O') vs ds → noLists ds = true → RpA (hid H O) vs ds
  | _, _, .nil, _ => .nil
  | _, _, .cons r t, c => by
    simp only [noLists, Bool.and_eq_true] at c
    exact .cons (Rp.lend h r c.1) (RpA.lend h t c.2)
end
theorem EnvR.lend {own : List Nat} {H : Hp} {O : List Addr} {env : Env} {σ : L2.St} (E : EnvR own H O env σ) : ∃ O', EnvR [] H O' env σ ∧ ∀ a ∈ O, a ∈ O' ∨ ∃ vs, H a = some (.lst vs) := by
  classical
  refine ⟨O.filter fun a => decide (¬ ∃ vs, H a = some (.lst vs)), ⟨fun i d _ hd => ?_, (fun i d h => by cases h), fun a m => E.ok a (List.mem_filter.mp m).1, E.len⟩, fun a m => ?_⟩
  · have hs : Same (hid H O) (hid H (O.filter fun a => decide (¬ ∃ vs, H a = some (.lst vs)))) := hid_anti fun a m => (List.mem_filter.mp m).1
    by_cases m : i ∈ own
    · obtain ⟨a, vs, ds, h1, rfl, h3, h4, h5⟩ := E.held i d m hd
      refine ⟨_, h1, .lst (hid_at (fun mm => ?_) h3) (h5.mono hs)⟩
      exact of_decide_eq_true (List.mem_filter.mp mm).2 ⟨vs, h3⟩
    · obtain ⟨v, h1, h2⟩ := E.free i d m hd
      exact ⟨v, h1, h2.mono hs⟩
  · by_cases c : ∃ vs, H a = some (.lst vs)
    · exact .inr c
    · exact .inl (List.mem_filter.mpr ⟨m, decide_eq_true c⟩)
theorem je_flat {G : Gx} {M : MC} {k : Nat} {own : List Nat} {e : Expr} {f : Env → R D} (h : JE G M k [] e f) : JE G M k own e (fun s => do let d ← f s; if noList d then .ok d else .bad) := fun X W gd => by
  obtain ⟨t, p, q⟩ := h X W gd
  refine ⟨t, p, fun σ H O env Q E z => ?_⟩
  obtain ⟨O', E', hO⟩ := E.lend
  refine q σ H O' env Q E' ?_
  change Post W G.cA σ H (relD O) (f env >>= fun d => if noList d then .ok d else .bad) Q at z
  cases e : f env with
  | bad => rw [e] at z; exact z
  | ex c => rw [e] at z; exact z
  | ok d =>
    rw [e, ok_bind] at z
    split at z
    · rename_i hn
      intro v H' s r
      refine z v H' s (Rp.lend (fun a m => ?_) r hn)
      rcases hO a m with m | ⟨vs, e⟩
      · exact .inl m
      · exact .inr ⟨vs, s _ _ e⟩
    · exact z.elim
end SF

namespace SF
open PySem PySem.Spec PyProof.Rows L2
variable [KS]
inductive Tg where
  | e (x : Expr) | es (xs : List Expr) | it (tg x : Expr)
inductive Md where
  | val | bor | test | whole
  deriving DecidableEq
inductive Need where
  | call (s : String) (g : Fn) | cst (s : String) (c : Const) | exc (s : String) (c : Nat)
/-- an own class of errors -/
def ExcOk (G : Gx) (s : String) (c : Nat) : Prop := ∃ (Bn newId initId : String) (bm : List Value), PySem.ExcBaseFacts Bn newId initId bm ∧ PySem.W.excIn G.K (G.cA c) bm newId = true ∧ G.mg (Str.ofString s) = some (.ref (G.cA c)) ∧ PySem.W.keepIn G.K (.ref (G.cA c)) = true ∧
  PySem.W.subIn G.K (.ref (G.cA c)) (.type "BaseException") = some true ∧ PySem.W.typeIn G.K (.ref (G.cA c)) = some (.type "type")
def NeedOk (G : Gx) (k : Nat) : Need → Prop
  | .exc s c => ExcOk G s c
  | .call s g => CallOk G k s g
  | .cst s c => ConstAt G s c
def needE : E → List Need
  | .glob s c => [.cst s c]
  | .op1 _ a => needE a
  | .op2 _ a b => needE a ++ needE b
  | .op3 _ a b c => needE a ++ (needE b ++ needE c)
  | .chain _ _ a b c => needE a ++ (needE b ++ needE c)
  | .slice a b c => needE a ++ (needE b ++ needE c)
  | .flat a => needE a
  | .index a b => needE a ++ needE b
  | .andE a b => needE a ++ needE b
  | .orE a b => needE a ++ needE b
  | .oneE a => needE a
  | .notE a => needE a
  | .ite a b c => needE a ++ (needE b ++ needE c)
  | .tup es => needE es
  | .lst es => needE es
  | .cons a b => needE a ++ needE b
  | .call f g es => .call f g :: needE es
  | .lc _ _ it c e => needE it ++ (needE c ++ needE e)
  | .itSeq a => needE a
  | .itRange a => needE a
  | .itRange2 a b => needE a ++ needE b
  | .itEnum a => needE a
  | .itZip a b => needE a ++ needE b
  | _ => []
def ndb (x : Str) : Bool := !(x == ("__debug__" : Str))
def isTrueC : E → Bool
  | .cst (.bool true) => true
  | _ => false
/-- a plain expression: no whole BoolOp; where it is a test, the test of its value -/
def mdOk (md : Md) (x : Expr) : Bool := match md with
  | .whole => false
  | .test => plainT x
  | _ => true
def itMd (md : Md) : Bool := decide (md = .val) || decide (md = .bor)
def mE : E → MC → List Nat → Md → Tg → Bool
  | .var i => fun M own md tg => match tg with
    | .e (.Name x _) => nmB M i x && mdOk md (.Name x default) && (decide (md ≠ .val) || !own.contains i)
    | _ => false
  | .cst c => fun M own md tg => match tg with
    | .e (.Constant c' _ _) => decide (c' = c) && mdOk md (.Constant c' 0 default)
    | _ => false
  | .glob s c => fun M own md tg => match tg with
    | .e (.Name x _) => gl M s x && ndb x && mdOk md (.Name x default)
    | _ => false
  | .op1 o a => fun M own md tg => match tg with
    | .e x => (match v1 M o x with
      | some y => mdOk md x && mE a M own .bor (.e y)
      | none => false)
    | _ => false
  | .op2 o a b => fun M own md tg => match tg with
    | .e x => (match v2 M o x with
      | some (y, z) => (decide (md ≠ .whole) && ((cmpOf o).isSome || mdOk md x)) && (mE a M own .bor (.e y) && mE b M own .bor (.e z))
      | none => false)
    | _ => false
  | .op3 o a b c => fun M own md tg => match tg with
    | .e x => (match v3 M o x with
      | some (y, z, w) => mdOk md x && (mE a M own .bor (.e y) && (mE b M own .bor (.e z) && mE c M own .bor (.e w)))
      | none => false)
    | _ => false
  | .chain o o' a b c => fun M own md tg => match tg with
    | .e x => (match cmpOf o, cmpOf o' with
      | some p, some q => (match chainV p q x with
        | some (y, z, w) => decide (md ≠ .whole) && (mE a M own .bor (.e y) && (mE b M own .bor (.e z) && mE c M own .bor (.e w)))
        | none => false)
      | _, _ => false)
    | _ => false
  | .slice a b c => fun M own md tg => match tg with
    | .e x => (match sliceV x with
      | some (y, z, w) => mdOk md x && (mE a M own .bor (.e y) && (mE b M own .bor (.e z) && mE c M own .bor (.e w)))
      | none => false)
    | _ => false
  | .flat a => fun M own md tg => match tg with
    | .e x => mdOk md x && mE a M [] .val (.e x)
    | _ => false
  | .index a b => fun M own md tg => match tg with
    | .e x => (match methV "index" x with
      | some (y, z) => mdOk md x && (mE a M own .bor (.e y) && mE b M own .bor (.e z))
      | none => false)
    | _ => false
  | .andE a b => fun M own md tg => match tg with
    | .e (.BoolOp .And (x :: y :: r) pos) => if itMd md = true then mE a M own .bor (.e x) && mE b M own .val (.e (.BoolOp .And (y :: r) pos)) else mE a M own .test (.e x) && mE b M own .whole (.e (.BoolOp .And (y :: r) pos))
    | _ => false
  | .orE a b => fun M own md tg => match tg with
    | .e (.BoolOp .Or (x :: y :: r) pos) => if itMd md = true then mE a M own .bor (.e x) && mE b M own .val (.e (.BoolOp .Or (y :: r) pos)) else mE a M own .test (.e x) && mE b M own .whole (.e (.BoolOp .Or (y :: r) pos))
    | _ => false
  | .oneE a => fun M own md tg => match tg with
    | .e (.BoolOp _ [x] _) => if itMd md = true then mE a M own .val (.e x) else mE a M own .test (.e x)
    | _ => false
  | .notE a => fun M own md tg => match tg with
    | .e (.UnaryOp .Not x _) => if itMd md = true then mE a M own .bor (.e x) else decide (md = .test) && mE a M own .test (.e x)
    | _ => false
  | .ite c a b => fun M own md tg => match tg with
    | .e (.IfExp x y z _) => itMd md && (mE c M own .test (.e x) && (mE a M own .val (.e y) && mE b M own .val (.e z)))
    | _ => false
  | .tup es => fun M own md tg => match tg with
    | .e (.Tuple xs _ _) => itMd md && (decide (xs.length ≤ 1000) && mE es M own .val (.es xs))
    | _ => false
  | .lst es => fun M own md tg => match tg with
    | .e (.List xs _) => itMd md && (decide (xs.length ≤ 1000) && mE es M own .val (.es xs))
    | _ => false
  | .nil => fun M own md tg => match tg with
    | .es [] => true
    | _ => false
  | .cons e es => fun M own md tg => match tg with
    | .es (x :: xs) => notStar x && (mE e M own .val (.e x) && mE es M own .val (.es xs))
    | _ => false
  | .call f g es => fun M own md tg => match tg with
    | .e (.Call (.Name x p) args [] pos) => (gl M f x && ndb x && args.all notStar && mdOk md (.Call (.Name x p) [] [] pos)) && mE es M own .val (.es args)
    | _ => false
  | .lc vs t it c e => fun M own md tg => match tg with
    | .e (.ListComp elt [⟨tgt, iter, ifs, 0⟩] scope pos) => (mdOk md (.ListComp elt [] scope pos) && blkB M scope (ownN M vs) && tgB (M.blk scope) t tgt && (t.slots.all fun i => vs.contains i && !own.contains i) && foldOk iter) &&
        (mE it M own .bor (.it tgt iter) && ((match ifs with
          | [] => isTrueC c
          | [x] => mE c (M.blk scope) own .test (.e x)
          | _ => false) && mE e (M.blk scope) own .val (.e elt)))
    | _ => false
  | .itSeq a => fun M own md tg => match tg with
    | .it _ x => itMd md && mE a M own md (.e x)
    | _ => false
  | .itRange a => fun M own md tg => match tg with
    | .it _ (.Call (.Name f _) [x] [] _) => itMd md && gl M "range" f && notStar x && mE a M own .bor (.e x)
    | _ => false
  | .itRange2 a b => fun M own md tg => match tg with
    | .it _ (.Call (.Name f _) [x, y] [] _) => (itMd md && gl M "range" f && notStar x && notStar y) && (mE a M own .bor (.e x) && mE b M own .bor (.e y))
    | _ => false
  | .itEnum a => fun M own md tg => match tg with
    | .it (.Tuple _ _ _) (.Call (.Name f _) [x] [] _) => itMd md && gl M "enumerate" f && notStar x && mE a M own md (.e x)
    | _ => false
  | .itZip a b => fun M own md tg => match tg with
    | .it (.Tuple _ _ _) (.Call (.Name f _) [x, y] [] _) => (itMd md && gl M "zip" f && notStar x && notStar y) && (mE a M own md (.e x) && mE b M own md (.e y))
    | _ => false
def Snd (G : Gx) (k : Nat) (M : MC) (own : List Nat) (md : Md) (f : Env → R D) : Tg → Prop
  | .e x => (match md with
    | .val => JE G M k own x f
    | .bor => JB G M k own x f
    | .test => JT G M k own x (fun s => do let v ← f s; truthy v)
    | .whole => JW G M k own x (fun s => do let v ← f s; truthy v))
  | .es xs => JA G M k own xs (fun s => tupleOf (f s)) ∧ ∀ env ds, tupleOf (f env) = .ok ds → ds.length = xs.length
  | .it tg x => ∀ m : Bool, (md = if m = true then .val else .bor) → JI G M k own m tg x (fun s => listOf (f s))
theorem snd_plain {G : Gx} {k : Nat} {M : MC} {own : List Nat} {md : Md} {f : Env → R D} {x : Expr} (hm : mdOk md x = true) (h : JE G M k own x f) : Snd G k M own md f (.e x) := by
  cases md with
  | val => exact h
  | bor => exact h.jb
  | test => exact jt_truth hm h.jb
  | whole => cases hm
theorem snd_plain' {G : Gx} {k : Nat} {M : MC} {own : List Nat} {md : Md} {f : Env → R D} {x : Expr} (hm : itMd md = true) (h : JE G M k own x f) : Snd G k M own md f (.e x) := by
  cases md with
  | val => exact h
  | bor => exact h.jb
  | test => cases hm
  | whole => cases hm
theorem plainT_name {x : Str} {p q : Pos} {md : Md} (h : mdOk md (.Name x p) = true) : mdOk md (.Name x q) = true := by cases md <;> first | rfl | cases h

theorem JI.congr {G : Gx} {M : MC} {k : Nat} {own : List Nat} {m : Bool} {tg x : Expr} {f g : Env → R (List D)} (h : JI G M k own m tg x f) (e : ∀ s, f s = g s) : JI G M k own m tg x g := by
  rw [← (funext e : f = g)]
  exact h
theorem JA.congr {G : Gx} {M : MC} {k : Nat} {own : List Nat} {x : List Expr} {f g : Env → R (List D)} (h : JA G M k own x f) (e : ∀ s, f s = g s) : JA G M k own x g := by
  rw [← (funext e : f = g)]
  exact h
theorem JE.congr {G : Gx} {M : MC} {k : Nat} {own : List Nat} {x : Expr} {f g : Env → R D} (h : JE G M k own x f) (e : ∀ s, f s = g s) : JE G M k own x g := by
  rw [← (funext e : f = g)]
  exact h
theorem gl_name {M : MC} {s : String} {x : Str} (h : gl M s x = true) : x = Str.ofString s ∧ gl M s (Str.ofString s) = true := by
  have e := gl_eq h
  subst e
  exact ⟨rfl, h⟩
theorem Snd.jm {G : Gx} {k : Nat} {M : MC} {own : List Nat} {md : Md} {f : Env → R D} {x : Expr} {m : Bool} (h : Snd G k M own md f (.e x)) (e : md = if m = true then .val else .bor) : JM G M k own m x f := by
  cases m with
  | true =>
    rw [if_pos rfl] at e
    subst e
    exact h
  | false =>
    rw [if_neg Bool.false_ne_true] at e
    subst e
    exact h
theorem needs_l {G : Gx} {k : Nat} {a b : List Need} (h : ∀ n ∈ a ++ b, NeedOk G k n) : ∀ n ∈ a, NeedOk G k n := fun n m => h n (List.mem_append_left _ m)
theorem needs_r {G : Gx} {k : Nat} {a b : List Need} (h : ∀ n ∈ a ++ b, NeedOk G k n) : ∀ n ∈ b, NeedOk G k n := fun n m => h n (List.mem_append_right _ m)
theorem sound_e {G : Gx} {k : Nat} : ∀ (e : E) (M : MC) (own : List Nat) (md : Md) (tg : Tg), mE e M own md tg = true → (∀ n ∈ needE e, NeedOk G k n) → Snd G k M own md (den e) tg := by
  intro e
  induction e with
  | var i =>
    intro M own md tg h _
    unfold mE at h
    split at h
    · simp only [Bool.and_eq_true] at h
      obtain ⟨⟨h1, h2⟩, h3⟩ := h
      cases md with
      | val => exact je_var h1 (by simpa using h3)
      | bor => exact jb_var h1
      | test => exact jt_truth rfl (jb_var h1)
      | whole => cases h2
    · cases h
  | cst c =>
    intro M own md tg h _
    unfold mE at h
    split at h
    · simp only [Bool.and_eq_true, decide_eq_true_eq] at h
      obtain ⟨rfl, h2⟩ := h
      exact snd_plain (by cases md <;> first | rfl | cases h2) je_cst
    · cases h
  | glob s c =>
    intro M own md tg h nd
    unfold mE at h
    split at h
    · simp only [Bool.and_eq_true] at h
      obtain ⟨⟨h1, h2⟩, h3⟩ := h
      refine snd_plain (by cases md <;> first | rfl | cases h3) (je_glob h1 (by simpa [ndb] using h2) (nd _ List.mem_cons_self))
    · cases h
  | op1 o a ih =>
    intro M own md tg h nd
    unfold mE at h
    split at h
    · split at h
      · rename_i x y e
        rw [Bool.and_eq_true] at h
        exact snd_plain h.1 (snd1 e (ih M own .bor (.e y) h.2 nd))
      · cases h
    · cases h
  | op2 o a b iha ihb =>
    intro M own md tg h nd
    unfold mE at h
    split at h
    · split at h
      · rename_i x _ y z e
        simp only [Bool.and_eq_true] at h
        obtain ⟨⟨h0, h1⟩, h2, h3⟩ := h
        have ja := iha M own .bor (.e y) h2 (needs_l nd)
        have jb := ihb M own .bor (.e z) h3 (needs_r nd)
        have je : JE G M k own x (den (.op2 o a b)) := snd2 e ja jb
        rw [Bool.or_eq_true] at h1
        rcases h1 with h1 | h1
        · cases md with
          | val => exact je
          | bor => exact je.jb
          | test =>
            obtain ⟨c, hc⟩ := Option.isSome_iff_exists.mp h1
            unfold v2 at e
            rw [hc] at e
            exact jt_cmp hc e ja jb
          | whole => simp at h0
        · exact snd_plain h1 je
      · cases h
    · cases h
  | op3 o a b c iha ihb ihc =>
    intro M own md tg h nd
    unfold mE at h
    split at h
    · split at h
      · rename_i x _ y z w e
        simp only [Bool.and_eq_true] at h
        obtain ⟨h0, h1, h2, h3⟩ := h
        exact snd_plain h0 (snd3 e (iha M own .bor (.e y) h1 (needs_l nd)) (ihb M own .bor (.e z) h2 (needs_l (needs_r nd))) (ihc M own .bor (.e w) h3 (needs_r (needs_r nd))))
      · cases h
    · cases h
  | chain o o' a b c iha ihb ihc =>
    intro M own md tg h nd
    unfold mE at h
    split at h
    · split at h
      · rename_i x _ _ p q e1 e2
        split at h
        · rename_i _ y z w e
          simp only [Bool.and_eq_true] at h
          obtain ⟨h0, h1, h2, h3⟩ := h
          have ja := iha M own .bor (.e y) h1 (needs_l nd)
          have jb := ihb M own .bor (.e z) h2 (needs_l (needs_r nd))
          have jc := ihc M own .bor (.e w) h3 (needs_r (needs_r nd))
          cases md with
          | val => exact je_chain e1 e2 e ja jb jc
          | bor => exact (je_chain e1 e2 e ja jb jc).jb
          | test => exact jt_chain e1 e2 e ja jb jc
          | whole => simp at h0
        · cases h
      · cases h
    · cases h
  | slice a b c iha ihb ihc =>
    intro M own md tg h nd
    unfold mE at h
    split at h
    · split at h
      · rename_i x _ y z w e
        simp only [Bool.and_eq_true] at h
        obtain ⟨h0, h1, h2, h3⟩ := h
        exact snd_plain h0 (je_slice e (iha M own .bor (.e y) h1 (needs_l nd)) (ihb M own .bor (.e z) h2 (needs_l (needs_r nd))) (ihc M own .bor (.e w) h3 (needs_r (needs_r nd))))
      · cases h
    · cases h
  | flat a ih =>
    intro M own md tg h nd
    unfold mE at h
    split at h
    · rename_i x
      rw [Bool.and_eq_true] at h
      exact snd_plain h.1 (je_flat (ih M [] .val (.e x) h.2 nd))
    · cases h
  | index a b iha ihb =>
    intro M own md tg h nd
    unfold mE at h
    split at h
    · split at h
      · rename_i x _ y z e
        simp only [Bool.and_eq_true] at h
        obtain ⟨h0, h1, h2⟩ := h
        exact snd_plain h0 (je_index e (iha M own .bor (.e y) h1 (needs_l nd)) (ihb M own .bor (.e z) h2 (needs_r nd)))
      · cases h
    · cases h
  | andE a b iha ihb =>
    intro M own md tg h nd
    unfold mE at h
    split at h
    · rename_i x y r pos
      split at h
      · rename_i hm
        rw [Bool.and_eq_true] at h
        exact snd_plain' hm (je_and (iha M own .bor (.e x) h.1 (needs_l nd)) (ihb M own .val _ h.2 (needs_r nd)))
      · rename_i hm
        rw [Bool.and_eq_true] at h
        have j := jw_and (iha M own .test (.e x) h.1 (needs_l nd)) (ihb M own .whole _ h.2 (needs_r nd))
        cases md with
        | val => exact absurd rfl hm
        | bor => exact absurd rfl hm
        | test => exact j.jt
        | whole => exact j
    · cases h
  | orE a b iha ihb =>
    intro M own md tg h nd
    unfold mE at h
    split at h
    · rename_i x y r pos
      split at h
      · rename_i hm
        rw [Bool.and_eq_true] at h
        exact snd_plain' hm (je_or (iha M own .bor (.e x) h.1 (needs_l nd)) (ihb M own .val _ h.2 (needs_r nd)))
      · rename_i hm
        rw [Bool.and_eq_true] at h
        have j := jw_or (iha M own .test (.e x) h.1 (needs_l nd)) (ihb M own .whole _ h.2 (needs_r nd))
        cases md with
        | val => exact absurd rfl hm
        | bor => exact absurd rfl hm
        | test => exact j.jt
        | whole => exact j
    · cases h
  | oneE a ih =>
    intro M own md tg h nd
    unfold mE at h
    split at h
    · rename_i op x pos
      split at h
      · rename_i hm
        exact snd_plain' hm (je_oneE (ih M own .val (.e x) h nd))
      · rename_i hm
        have j := jw_one (op := op) (pos := pos) (ih M own .test (.e x) h nd)
        cases md with
        | val => exact absurd rfl hm
        | bor => exact absurd rfl hm
        | test => exact j.jt
        | whole => exact j
    · cases h
  | notE a ih =>
    intro M own md tg h nd
    unfold mE at h
    split at h
    · rename_i x pos
      split at h
      · rename_i hm
        exact snd_plain' hm (je_not (ih M own .bor (.e x) h nd))
      · rename_i hm
        rw [Bool.and_eq_true, decide_eq_true_eq] at h
        obtain ⟨rfl, h⟩ := h
        exact jt_not (ih M own .test (.e x) h nd)
    · cases h
  | ite c a b ihc iha ihb =>
    intro M own md tg h nd
    unfold mE at h
    split at h
    · rename_i x y z pos
      simp only [Bool.and_eq_true] at h
      obtain ⟨h0, h1, h2, h3⟩ := h
      exact snd_plain' h0 (je_ite (ihc M own .test (.e x) h1 (needs_l nd)) (iha M own .val (.e y) h2 (needs_l (needs_r nd))) (ihb M own .val (.e z) h3 (needs_r (needs_r nd))))
    · cases h
  | tup es ih =>
    intro M own md tg h nd
    unfold mE at h
    split at h
    · rename_i xs j pos
      simp only [Bool.and_eq_true, decide_eq_true_eq] at h
      obtain ⟨h0, h1, h2⟩ := h
      obtain ⟨j1, j2⟩ := ih M own .val (.es xs) h2 nd
      exact snd_plain' h0 (je_tup j1 h1 j2)
    · cases h
  | lst es ih =>
    intro M own md tg h nd
    unfold mE at h
    split at h
    · rename_i xs pos
      simp only [Bool.and_eq_true, decide_eq_true_eq] at h
      obtain ⟨h0, h1, h2⟩ := h
      obtain ⟨j1, j2⟩ := ih M own .val (.es xs) h2 nd
      exact snd_plain' h0 (je_lst j1 h1 j2)
    · cases h
  | nil =>
    intro M own md tg h nd
    unfold mE at h
    split at h
    · exact ⟨ja_nil, fun env ds e => by cases e; rfl⟩
    · cases h
  | cons e es ihe ihs =>
    intro M own md tg h nd
    unfold mE at h
    split at h
    · rename_i x xs
      simp only [Bool.and_eq_true] at h
      obtain ⟨h0, h1, h2⟩ := h
      have j1 := ihe M own .val (.e x) h1 (needs_l nd)
      obtain ⟨j2, j3⟩ := ihs M own .val (.es xs) h2 (needs_r nd)
      refine ⟨(ja_cons j1 j2 h0).congr fun s => ?_, fun env ds hd => ?_⟩
      · show _ = tupleOf (den e s >>= fun x => tupleOf (den es s) >>= fun ds => .ok (.tuple (x :: ds)))
        cases den e s with
        | ok d => cases tupleOf (den es s) <;> rfl
        | ex c => rfl
        | bad => rfl
      · change tupleOf (den e env >>= fun x => tupleOf (den es env) >>= fun ds => .ok (.tuple (x :: ds))) = .ok ds at hd
        cases he : den e env with
        | ok d =>
          cases hs : tupleOf (den es env) with
          | ok ds' =>
            rw [he, hs] at hd
            cases hd
            exact congrArg (· + 1) (j3 env ds' hs)
          | ex c => rw [he, hs] at hd; cases hd
          | bad => rw [he, hs] at hd; cases hd
        | ex c => rw [he] at hd; cases hd
        | bad => rw [he] at hd; cases hd
    · cases h
  | call f g es ih =>
    intro M own md tg h nd
    unfold mE at h
    split at h
    · rename_i x p args pos
      simp only [Bool.and_eq_true] at h
      obtain ⟨⟨⟨⟨h1, h2⟩, h3⟩, h4⟩, h5⟩ := h
      have C : CallOk G k f g := nd _ List.mem_cons_self
      have hd : (x == ("__debug__" : Str)) = false := by simpa [ndb] using h2
      obtain ⟨j1, j2⟩ := ih M own .val (.es args) h5 fun n m => nd n (List.mem_cons_of_mem _ m)
      refine snd_plain (by cases md <;> first | rfl | cases h4) ?_
      cases args with
      | nil =>
        refine (je_call0 C h1 hd).congr fun s => ?_
        have e : es = .nil := by
          cases es <;> first | rfl | (unfold mE at h5; simp at h5)
        subst e
        rfl
      | cons a as => exact je_call C h1 hd h3 j1
    · cases h
  | lc vs t it c e ihi ihc ihe =>
    intro M own md tg h nd
    unfold mE at h
    split at h
    · rename_i elt tgt iter ifs scope pos
      simp only [Bool.and_eq_true] at h
      obtain ⟨⟨⟨⟨⟨h1, h2⟩, h3⟩, h4⟩, h5⟩, h6, h7, h8⟩ := h
      have ji := ihi M own .bor (.it tgt iter) h6 (needs_l nd) false rfl
      have je := ihe (M.blk scope) own .val (.e elt) h8 (needs_r (needs_r nd))
      have jc : IfOk G (M.blk scope) k own ifs (fun s => do let b ← den c s; truthy b) := by
        split at h7
        · refine .inl ⟨rfl, fun s => ?_⟩
          unfold isTrueC at h7
          split at h7
          · rfl
          · cases h7
        · rename_i x
          exact .inr ⟨x, rfl, ihc (M.blk scope) own .test (.e x) h7 (needs_l (needs_r nd))⟩
        · cases h7
      refine snd_plain (by cases md <;> first | rfl | cases h1) (je_lc ⟨ji, h2, h3, fun i hi => ?_, jc, je, h5⟩)
      have := (List.all_eq_true.mp h4) i hi
      simpa using this
    · cases h
  | itSeq a ih =>
    intro M own md tg h nd
    unfold mE at h
    split at h
    · rename_i tgt x
      rw [Bool.and_eq_true] at h
      intro m hm
      refine (ji_seq (Snd.jm (ih M own md (.e x) h.2 nd) hm)).congr fun s => ?_
      show _ = listOf (den a s >>= fun x => seqD x >>= fun xs => .ok (.list xs))
      cases den a s with
      | ok d =>
        show seqD d = listOf (seqD d >>= fun xs => .ok (.list xs))
        cases seqD d <;> rfl
      | ex c => rfl
      | bad => rfl
    · cases h
  | itRange a ih =>
    intro M own md tg h nd
    unfold mE at h
    split at h
    · rename_i tgt f p x pos
      simp only [Bool.and_eq_true] at h
      obtain ⟨⟨⟨h1, h2⟩, h3⟩, h4⟩ := h
      obtain ⟨rfl, h2⟩ := gl_name h2
      intro m hm
      refine (ji_range h2 h3 (ih M own .bor (.e x) h4 nd)).congr fun s => ?_
      show _ = listOf (den a s >>= fun x => _)
      cases den a s with
      | ok d => cases d <;> rfl
      | ex c => rfl
      | bad => rfl
    · cases h
  | itRange2 a b iha ihb =>
    intro M own md tg h nd
    unfold mE at h
    split at h
    · rename_i tgt f p x y pos
      simp only [Bool.and_eq_true] at h
      obtain ⟨⟨⟨⟨h1, h2⟩, h3⟩, h4⟩, h5, h6⟩ := h
      obtain ⟨rfl, h2⟩ := gl_name h2
      intro m hm
      refine (ji_range2 h2 h3 h4 (iha M own .bor (.e x) h5 (needs_l nd)) (ihb M own .bor (.e y) h6 (needs_r nd))).congr fun s => ?_
      show _ = listOf (den a s >>= fun x => den b s >>= fun y => _)
      cases den a s with
      | ok d =>
        cases den b s with
        | ok d2 => cases d <;> cases d2 <;> rfl
        | ex c => rfl
        | bad => rfl
      | ex c => rfl
      | bad => rfl
    · cases h
  | itEnum a ih =>
    intro M own md tg h nd
    unfold mE at h
    split at h
    · rename_i elts kk tpos f p x pos
      simp only [Bool.and_eq_true] at h
      obtain ⟨⟨⟨h1, h2⟩, h3⟩, h4⟩ := h
      obtain ⟨rfl, h2⟩ := gl_name h2
      intro m hm
      refine (ji_enum h2 h3 (Snd.jm (ih M own md (.e x) h4 nd) hm)).congr fun s => ?_
      show _ = listOf (den a s >>= fun x => seqD x >>= fun xs => .ok (.list (enumD 0 xs)))
      cases den a s with
      | ok d =>
        show (seqD d >>= fun xs => .ok (enumD 0 xs)) = listOf (seqD d >>= fun xs => .ok (.list (enumD 0 xs)))
        cases seqD d <;> rfl
      | ex c => rfl
      | bad => rfl
    · cases h
  | itZip a b iha ihb =>
    intro M own md tg h nd
    unfold mE at h
    split at h
    · rename_i elts kk tpos f p x y pos
      simp only [Bool.and_eq_true] at h
      obtain ⟨⟨⟨⟨h1, h2⟩, h3⟩, h4⟩, h5, h6⟩ := h
      obtain ⟨rfl, h2⟩ := gl_name h2
      intro m hm
      refine (ji_zip h2 h3 h4 (Snd.jm (iha M own md (.e x) h5 (needs_l nd)) hm) (Snd.jm (ihb M own md (.e y) h6 (needs_r nd)) hm)).congr fun s => ?_
      show _ = listOf (den a s >>= fun x => den b s >>= fun y => seqD x >>= fun xs => seqD y >>= fun ys => .ok (.list (zipD xs ys)))
      cases den a s with
      | ok d =>
        cases den b s with
        | ok d2 =>
          show (seqD d >>= fun xs => seqD d2 >>= fun ys => .ok (zipD xs ys)) = listOf (seqD d >>= fun xs => seqD d2 >>= fun ys => .ok (.list (zipD xs ys)))
          cases seqD d with
          | ok xs => cases seqD d2 <;> rfl
          | ex c => rfl
          | bad => rfl
        | ex c => rfl
        | bad => rfl
      | ex c => rfl
      | bad => rfl
    · cases h
end SF

namespace SF
open PySem PySem.Spec PyProof.Rows L2
variable [KS]
/-! ### the state of a body: own lists stand apart -/
structure EnvS (own : List Nat) (B : Hp) (O0 : List Addr) (H : Hp) (O : List Addr) (env : Env) (σ : L2.St) : Prop extends EnvR own H O env σ where
  base : Same B H
  sub : ∀ a ∈ O0, a ∈ O
  out : ∀ a ∈ O, a ∈ O0 ∨ B a = none
  fresh : ∀ (i : Nat) (d : D) (a : Addr), i ∈ own → env.getD i none = some d → σ[i]? = some (some (.ref a)) → B a = none ∧ a ∉ O0
  dist : ∀ (i j : Nat) (d e : D) (a : Addr), i ∈ own → j ∈ own → env.getD i none = some d → env.getD j none = some e → σ[i]? = some (some (.ref a)) → σ[j]? = some (some (.ref a)) → i = j
section
variable {own own' : List Nat} {B B' : Hp} {O0 O1 : List Addr} {H H' : Hp} {O O' : List Addr} {env : Env} {σ : L2.St}
theorem EnvS.mono (E : EnvS own B O0 H O env σ) (s : Same H H') : EnvS own B O0 H' O env σ where
  toEnvR := E.toEnvR.mono s
  base := E.base.trans s
  sub := E.sub
  out := E.out
  fresh := E.fresh
  dist := E.dist
/-- a nearer ground -/
structure Rb (B : Hp) (O0 : List Addr) (B' : Hp) (O1 : List Addr) : Prop where
  same : Same B B'
  sub : ∀ a ∈ O0, a ∈ O1
  out : ∀ a ∈ O1, a ∈ O0 ∨ B a = none
theorem Rb.refl : Rb B O0 B O0 := ⟨Same.refl _, fun _ h => h, fun _ h => .inl h⟩
theorem Rb.none {a : Addr} (r : Rb B O0 B' O1) (h : B' a = none) : B a = none := by
  cases e : B a with
  | none => rfl
  | some o =>
    rw [r.same a o e] at h
    cases h
theorem EnvS.back (E : EnvS own B' O1 H O env σ) (r : Rb B O0 B' O1) : EnvS own B O0 H O env σ where
  toEnvR := E.toEnvR
  base := r.same.trans E.base
  sub := fun a h => E.sub a (r.sub a h)
  out := fun a h => by
    rcases E.out a h with h | h
    · exact r.out a h
    · exact .inr (r.none h)
  fresh := fun i d a hi hd hs => by
    obtain ⟨h1, h2⟩ := E.fresh i d a hi hd hs
    exact ⟨r.none h1, fun m => h2 (r.sub a m)⟩
  dist := E.dist
/-- the addresses of some slots -/
def addrs (env : Env) (σ : L2.St) (is : List Nat) : List Addr := is.filterMap fun i => match env.getD i none, σ[i]? with
  | some _, some (some (.ref a)) => some a
  | _, _ => none
theorem mem_addrs {is : List Nat} {a : Addr} : a ∈ addrs env σ is ↔ ∃ i d, i ∈ is ∧ env.getD i none = some d ∧ σ[i]? = some (some (.ref a)) := by
  unfold addrs
  rw [List.mem_filterMap]
  constructor
  · rintro ⟨i, hi, h⟩
    split at h
    · rename_i d a' e1 e2
      cases h
      exact ⟨i, d, hi, e1, e2⟩
    · cases h
  · rintro ⟨i, d, hi, e1, e2⟩
    refine ⟨i, hi, ?_⟩
    rw [e1, e2]
/-- a ground at which only the own lists may change -/
theorem EnvS.rebase (E : EnvS own B O0 H O env σ) : ∃ B' O1, Rb B O0 B' O1 ∧ EnvS own B' O1 H O env σ ∧ (∀ b o, hid H O b = some o → B' b = some o) ∧ ∀ a ∈ O1, a ∈ O := by
  refine ⟨fun a => if a ∈ addrs env σ own then none else H a, O.filter fun a => decide (a ∉ addrs env σ own), ⟨fun b o h => ?_, fun a h => ?_, fun a h => ?_⟩, ⟨E.toEnvR, fun b o h => ?_, fun a h => ?_, fun a h => ?_, fun i d a hi hd hs => ?_, E.dist⟩, fun b o h => ?_, fun a h => ?_⟩
  · have hn : b ∉ addrs env σ own := fun m => by
      obtain ⟨i, d, hi, h1, h2⟩ := mem_addrs.mp m
      rw [(E.fresh i d b hi h1 h2).1] at h
      cases h
    show (if b ∈ addrs env σ own then none else H b) = some o
    rw [if_neg hn]
    exact E.base b o h
  · refine List.mem_filter.mpr ⟨E.sub a h, decide_eq_true fun m => ?_⟩
    obtain ⟨i, d, hi, h1, h2⟩ := mem_addrs.mp m
    exact (E.fresh i d a hi h1 h2).2 h
  · exact E.out a (List.mem_filter.mp h).1
  · change (if b ∈ addrs env σ own then none else H b) = some o at h
    split at h
    · cases h
    · exact h
  · exact (List.mem_filter.mp h).1
  · by_cases m : a ∈ addrs env σ own
    · exact .inr (if_pos m)
    · exact .inl (List.mem_filter.mpr ⟨h, decide_eq_true m⟩)
  · have m : a ∈ addrs env σ own := mem_addrs.mpr ⟨i, d, hi, hd, hs⟩
    exact ⟨if_pos m, fun h => of_decide_eq_true (List.mem_filter.mp h).2 m⟩
  · obtain ⟨n, h⟩ := hid_some h
    have hn : b ∉ addrs env σ own := fun m => by
      obtain ⟨i, d, hi, h1, h2⟩ := mem_addrs.mp m
      obtain ⟨a, vs, ds, g1, _, _, g4, _⟩ := E.held i d hi h1
      rw [h2] at g1
      cases g1
      exact n g4
    show (if b ∈ addrs env σ own then none else H b) = some o
    rw [if_neg hn]
    exact h
  · exact (List.mem_filter.mp h).1
/-- some of the own lists are own no more; some slots without a value are own -/
theorem EnvS.fit (E : EnvS own B O0 H O env σ) (h : ∀ i ∈ own', i ∈ own ∨ env.getD i none = none) : ∃ O', EnvS own' B O0 H O' env σ := by
  have key : ∀ i, i ∈ own' → ∀ d, env.getD i none = some d → i ∈ own := fun i hi d hd => by
    rcases h i hi with h | h
    · exact h
    · rw [hd] at h; cases h
  generalize hA : addrs env σ (own.filter fun i => decide (i ∉ own')) = A
  have inA : ∀ {i : Nat} {d : D} {a : Addr}, i ∈ own → i ∉ own' → env.getD i none = some d → σ[i]? = some (some (.ref a)) → a ∈ A := fun {i d a} h1 h2 h3 h4 => by
    rw [← hA]
    exact mem_addrs.mpr ⟨i, d, List.mem_filter.mpr ⟨h1, decide_eq_true h2⟩, h3, h4⟩
  have ofA : ∀ {a : Addr}, a ∈ A → ∃ i d, i ∈ own ∧ i ∉ own' ∧ env.getD i none = some d ∧ σ[i]? = some (some (.ref a)) := fun {a} m => by
    rw [← hA] at m
    obtain ⟨i, d, h1, h2, h3⟩ := mem_addrs.mp m
    obtain ⟨h4, h5⟩ := List.mem_filter.mp h1
    exact ⟨i, d, h4, of_decide_eq_true h5, h2, h3⟩
  have sb : ∀ a ∈ O.filter (fun a => decide (a ∉ A)), a ∈ O := fun a m => (List.mem_filter.mp m).1
  have hs : Same (hid H O) (hid H (O.filter fun a => decide (a ∉ A))) := hid_anti sb
  refine ⟨O.filter fun a => decide (a ∉ A), ⟨⟨fun i d hi hd => ?_, fun i d hi hd => ?_, fun a m => E.ok a (sb a m), E.len⟩, E.base, fun a m => ?_, fun a m => E.out a (sb a m), fun i d a hi hd hs => E.fresh i d a (key i hi d hd) hd hs, fun i j d e a hi hj h1 h2 h3 h4 => E.dist i j d e a (key i hi d h1) (key j hj e h2) h1 h2 h3 h4⟩⟩
  · by_cases m : i ∈ own
    · obtain ⟨a, vs, ds, h1, rfl, h3, h4, h5⟩ := E.held i d m hd
      refine ⟨_, h1, .lst (hid_at (fun mm => ?_) h3) (h5.mono hs)⟩
      exact of_decide_eq_true (List.mem_filter.mp mm).2 (inA m hi hd h1)
    · obtain ⟨v, h1, h2⟩ := E.free i d m hd
      exact ⟨v, h1, h2.mono hs⟩
  · obtain ⟨a, vs, ds, h1, h2, h3, h4, h5⟩ := E.held i d (key i hi d hd) hd
    refine ⟨a, vs, ds, h1, h2, h3, List.mem_filter.mpr ⟨h4, decide_eq_true fun m => ?_⟩, h5.mono hs⟩
    obtain ⟨j, e, g1, g2, g3, g4⟩ := ofA m
    have e1 := E.dist i j d e a (key i hi d hd) g1 hd g3 h1 g4
    exact g2 (e1 ▸ hi)
  · refine List.mem_filter.mpr ⟨E.sub a m, decide_eq_true fun mm => ?_⟩
    obtain ⟨j, e, g1, g2, g3, g4⟩ := ofA mm
    exact (E.fresh j e a g1 g3 g4).2 m
/-- a value put into a slot: it is own no more -/
theorem EnvS.set (E : EnvS own B O0 H O env σ) {i : Nat} {v : V} {d : D} (r : Rp (hid H O) v d) : EnvS (own.filter fun j => decide (j ≠ i)) B O0 H O (env.set i (some d)) (σ.set i (some v)) where
  free := fun j e hj hd => by
    rcases getD_set hd with ⟨rfl, rfl, hl⟩ | ⟨hne, h'⟩
    · exact ⟨v, List.getElem?_set_self (by rw [← E.len]; exact hl), r⟩
    · have hj' : j ∉ own := fun m => hj (List.mem_filter.mpr ⟨m, decide_eq_true fun e => hne e.symm⟩)
      obtain ⟨w, h1, h2⟩ := E.free j e hj' h'
      exact ⟨w, by rw [List.getElem?_set_ne hne]; exact h1, h2⟩
  held := fun j e hj hd => by
    obtain ⟨hj1, hj2⟩ := List.mem_filter.mp hj
    have hj2 := of_decide_eq_true hj2
    rcases getD_set hd with ⟨rfl, _, _⟩ | ⟨hne, h'⟩
    · exact absurd rfl hj2
    · obtain ⟨a, vs, ds, h1, h2⟩ := E.held j e hj1 h'
      exact ⟨a, vs, ds, by rw [List.getElem?_set_ne hne]; exact h1, h2⟩
  ok := E.ok
  len := by rw [List.length_set, List.length_set]; exact E.len
  base := E.base
  sub := E.sub
  out := E.out
  fresh := fun j e a hj hd hs => by
    obtain ⟨hj1, hj2⟩ := List.mem_filter.mp hj
    have hj2 := of_decide_eq_true hj2
    rw [List.getElem?_set_ne (fun e => hj2 e.symm)] at hs
    rcases getD_set hd with ⟨rfl, _, _⟩ | ⟨hne, h'⟩
    · exact absurd rfl hj2
    · exact E.fresh j e a hj1 h' hs
  dist := fun j l e f a hj hl h1 h2 h3 h4 => by
    obtain ⟨hj1, hj2⟩ := List.mem_filter.mp hj
    obtain ⟨hl1, hl2⟩ := List.mem_filter.mp hl
    have hj2 := of_decide_eq_true hj2
    have hl2 := of_decide_eq_true hl2
    rw [List.getElem?_set_ne (fun e => hj2 e.symm)] at h3
    rw [List.getElem?_set_ne (fun e => hl2 e.symm)] at h4
    rcases getD_set h1 with ⟨rfl, _, _⟩ | ⟨_, h1'⟩
    · exact absurd rfl hj2
    · rcases getD_set h2 with ⟨rfl, _, _⟩ | ⟨_, h2'⟩
      · exact absurd rfl hl2
      · exact E.dist j l e f a hj1 hl1 h1' h2' h3 h4
/-- a slot that was not own stays so -/
theorem filter_not {i : Nat} (h : i ∉ own) : (own.filter fun j => decide (j ≠ i)) = own := by
  refine List.filter_eq_self.mpr fun j m => decide_eq_true fun e => h (e ▸ m)
/-- a new list put into a slot: it is own -/
theorem EnvS.setO (E : EnvS own B O0 H O env σ) {i : Nat} {p : Addr} {vs : List V} {ds : List D} (s : Same H H') (hp : H p = none) (hv : H' p = some (.lst vs)) (r : RpA (hid H' (p :: O)) vs ds) :
    EnvS (i :: own.filter fun j => decide (j ≠ i)) B O0 H' (p :: O) (env.set i (some (.list ds))) (σ.set i (some (.ref p))) := by
  have nO : p ∉ O := E.ok.new hp
  have gr : Same (hid H O) (hid H' (p :: O)) := fun b o hb => by
    obtain ⟨n, hb⟩ := hid_some hb
    refine hid_at (fun m => ?_) (s b o hb)
    rcases List.mem_cons.mp m with rfl | m
    · rw [hp] at hb; cases hb
    · exact n m
  have np : ∀ {j : Nat} {e : D}, j ∈ own → env.getD j none = some e → σ[j]? ≠ some (some (.ref p)) := fun {j e} hj hd h => by
    obtain ⟨a, vs, ds, h1, h2, h3, _⟩ := E.held j e hj hd
    rw [h] at h1
    cases h1
    rw [hp] at h3
    cases h3
  have mem : ∀ {j : Nat}, j ∈ (i :: own.filter fun j => decide (j ≠ i)) → j ≠ i → j ∈ own := fun {j} hj hne => by
    rcases List.mem_cons.mp hj with e | hj
    · exact absurd e hne
    · exact (List.mem_filter.mp hj).1
  refine ⟨⟨fun j e hj hd => ?_, fun j e hj hd => ?_, fun a ha => ?_, by rw [List.length_set, List.length_set]; exact E.len⟩, E.base.trans s, fun a h => List.mem_cons_of_mem _ (E.sub a h), fun a h => ?_, fun j e a hj hd hs => ?_, fun j l e f a hj hl h1 h2 h3 h4 => ?_⟩
  · rcases getD_set hd with ⟨rfl, _, _⟩ | ⟨hne, h'⟩
    · exact absurd List.mem_cons_self hj
    · have hj' : j ∉ own := fun m => hj (List.mem_cons_of_mem _ (List.mem_filter.mpr ⟨m, decide_eq_true fun e => hne e.symm⟩))
      obtain ⟨w, h1, h2⟩ := E.free j e hj' h'
      exact ⟨w, by rw [List.getElem?_set_ne hne]; exact h1, h2.mono gr⟩
  · rcases getD_set hd with ⟨rfl, rfl, hl⟩ | ⟨hne, h'⟩
    · exact ⟨p, vs, ds, List.getElem?_set_self (by rw [← E.len]; exact hl), rfl, hv, List.mem_cons_self, r⟩
    · obtain ⟨a, ws, es, h1, h2, h3, h4, h5⟩ := E.held j e (mem hj fun e => hne e.symm) h'
      exact ⟨a, ws, es, by rw [List.getElem?_set_ne hne]; exact h1, h2, s _ _ h3, List.mem_cons_of_mem _ h4, h5.mono gr⟩
  · rcases List.mem_cons.mp ha with rfl | ha
    · exact ⟨_, hv⟩
    · exact E.ok.mono s a ha
  · rcases List.mem_cons.mp h with rfl | h
    · right
      cases e : B a with
      | none => rfl
      | some o => rw [E.base _ _ e] at hp; cases hp
    · exact E.out a h
  · rcases getD_set hd with ⟨rfl, rfl, hl⟩ | ⟨hne, h'⟩
    · rw [List.getElem?_set_self (by rw [← E.len]; exact hl)] at hs
      cases hs
      refine ⟨?_, fun m => nO (E.sub _ m)⟩
      cases e : B p with
      | none => rfl
      | some o => rw [E.base _ _ e] at hp; cases hp
    · rw [List.getElem?_set_ne hne] at hs
      exact E.fresh j e a (mem hj fun e => hne e.symm) h' hs
  · rcases getD_set h1 with ⟨rfl, _, hl1⟩ | ⟨n1, h1'⟩
    · rcases getD_set h2 with ⟨rfl, _, _⟩ | ⟨n2, h2'⟩
      · rfl
      · rw [List.getElem?_set_self (by rw [← E.len]; exact hl1)] at h3
        rw [List.getElem?_set_ne n2] at h4
        cases h3
        exact absurd h4 (np (mem hl fun e => n2 e.symm) h2')
    · rcases getD_set h2 with ⟨rfl, _, hl2⟩ | ⟨n2, h2'⟩
      · rw [List.getElem?_set_self (by rw [← E.len]; exact hl2)] at h4
        rw [List.getElem?_set_ne n1] at h3
        cases h4
        exact absurd h3 (np (mem hj fun e => n1 e.symm) h1')
      · rw [List.getElem?_set_ne n1] at h3
        rw [List.getElem?_set_ne n2] at h4
        exact E.dist j l e f a (mem hj fun e => n1 e.symm) (mem hl fun e => n2 e.symm) h1' h2' h3 h4
/-- an own list is written -/
theorem EnvS.write (E : EnvS own B O0 H O env σ) {i : Nat} {a : Addr} {d : D} {vs : List V} {ds : List D} (hi : i ∈ own) (hd : env.getD i none = some d) (hs : σ[i]? = some (some (.ref a))) (r : RpA (hid H O) vs ds) :
    EnvS own B O0 (upd H a (.lst vs)) O (env.set i (some (.list ds))) σ := by
  obtain ⟨a', ws, es, h1, h2, h3, h4, h5⟩ := E.held i d hi hd
  rw [hs] at h1
  cases h1
  have hw : hid (upd H a (.lst vs)) O = hid H O := hid_write h4
  have hl : i < env.length := by
    rcases Nat.lt_or_ge i env.length with h | h
    · exact h
    · rw [List.getD_eq_getElem?_getD, List.getElem?_eq_none h] at hd
      cases hd
  refine ⟨⟨fun j e hj hd' => ?_, fun j e hj hd' => ?_, fun b hb => ?_, by rw [List.length_set]; exact E.len⟩, fun b o hb => ?_, E.sub, E.out, fun j e b hj hd' hs' => ?_, fun j l e f b hj hl h1 h2 h3 h4 => ?_⟩
  · rw [hw]
    rcases getD_set hd' with ⟨rfl, _, _⟩ | ⟨hne, h'⟩
    · exact absurd hi hj
    · exact E.free j e hj h'
  · rw [hw]
    rcases getD_set hd' with ⟨rfl, rfl, _⟩ | ⟨hne, h'⟩
    · exact ⟨a, vs, ds, hs, rfl, upd_same, h4, r⟩
    · obtain ⟨b, ws, es, g1, g2, g3, g4, g5⟩ := E.held j e hj h'
      refine ⟨b, ws, es, g1, g2, ?_, g4, g5⟩
      rw [upd_ne fun e' => hne (E.dist i j d e a hi hj hd h' hs (by rw [← e']; exact g1))]
      exact g3
  · by_cases e : b = a
    · exact ⟨_, by rw [e]; exact upd_same⟩
    · rw [upd_ne e]
      exact E.ok b hb
  · rw [upd_ne fun e => ?_]
    · exact E.base b o hb
    · rw [e, (E.fresh i d a hi hd hs).1] at hb
      cases hb
  · rcases getD_set hd' with ⟨rfl, _, _⟩ | ⟨_, h'⟩
    · exact E.fresh i d b hi hd hs'
    · exact E.fresh j e b hj h' hs'
  · have g1 : ∃ e', env.getD j none = some e' := by
      rcases getD_set h1 with ⟨rfl, _, _⟩ | ⟨_, h'⟩
      · exact ⟨_, hd⟩
      · exact ⟨_, h'⟩
    have g2 : ∃ e', env.getD l none = some e' := by
      rcases getD_set h2 with ⟨rfl, _, _⟩ | ⟨_, h'⟩
      · exact ⟨_, hd⟩
      · exact ⟨_, h'⟩
    obtain ⟨e1, g1⟩ := g1
    obtain ⟨e2, g2⟩ := g2
    exact E.dist j l e1 e2 b hj hl g1 g2 h3 h4
theorem EnvS.wipe (E : EnvS own B O0 H O env σ) (ks : List Nat) : EnvS own B O0 H O (wipeE env ks) σ where
  free := fun j e hj h => E.free j e hj (wipeE_get h).1
  held := fun j e hj h => E.held j e hj (wipeE_get h).1
  ok := E.ok
  len := by rw [wipeE_length]; exact E.len
  base := E.base
  sub := E.sub
  out := E.out
  fresh := fun i d a hi hd hs => E.fresh i d a hi (wipeE_get hd).1 hs
  dist := fun i j d e a hi hj h1 h2 h3 h4 => E.dist i j d e a hi hj (wipeE_get h1).1 (wipeE_get h2).1 h3 h4
end
end SF

namespace SF
open PySem PySem.Spec PyProof.Rows L2
variable [KS]
/-! ### what is wanted behind statements -/
def PostO (own : List Nat) (W : WX) (cA : Nat → Addr) (B : Hp) (O0 : List Addr) (n : Nat) (o : Out) (D : Ends) : Prop := match o with
  | .nx env => ∀ σ H O, σ.length = n → EnvS own B O0 H O env σ → D.nx σ H
  | .ret d => ∀ v H, Same B H → Rp (hid H O0) v d → D.rt v H
  | .ex c => ∀ σ H, σ.length = n → Same B H → W (.ref (cA c)) none σ H
  | .bad => False
def JSs (G : Gx) (M : MC) (k : Nat) (own own' : List Nat) (sts : List Stmt) (f : Env → Out) : Prop := ∀ X W, GoodS G M k W X → ∃ t, PSs X sts t ∧ ∀ B O0 σ H O env D, EnvS own B O0 H O env σ → PostO own' W G.cA B O0 σ.length (f env) D → t D σ H
def JS1 (G : Gx) (M : MC) (k : Nat) (own own' : List Nat) (st : Stmt) (f : Env → Out) : Prop := ∀ X W, GoodS G M k W X → ∃ t, PS X st t ∧ ∀ B O0 σ H O env D, EnvS own B O0 H O env σ → PostO own' W G.cA B O0 σ.length (f env) D → t D σ H
section
variable {G : Gx} {M : MC} {k : Nat} {own own' own2 : List Nat} {W : WX} {cA : Nat → Addr} {B B' : Hp} {O0 O1 : List Addr} {H : Hp} {O : List Addr} {env : Env} {σ : L2.St} {De : Ends} {n : Nat}
theorem PostO.back {o : Out} (h : PostO own W cA B O0 n o De) (r : Rb B O0 B' O1) : PostO own W cA B' O1 n o De := by
  cases o with
  | nx e => exact fun σ H O hl E => h σ H O hl (E.back r)
  | ret d => exact fun v H s q => h v H (r.same.trans s) (q.mono (hid_anti r.sub))
  | ex c => exact fun σ H hl s => h σ H hl (r.same.trans s)
  | bad => exact h
/-- an expression's answer, then what comes of it -/
theorem PostO.run {α β : Type} {rel : Hp → α → β → Prop} {r : R β} {g : β → Out} {Q : α → Hp → Prop} (z : PostO own' W cA B O0 σ.length (out r g) De) (E : EnvS own B O0 H O env σ)
    (q : ∀ d v H', r = .ok d → Same H H' → rel H' v d → PostO own' W cA B O0 σ.length (g d) De → Q v H') : Post W cA σ H rel r Q := by
  cases r with
  | ok d => exact fun v H' s rv => q d v H' rfl s rv z
  | ex c => exact fun H' s => z σ H' rfl (E.base.trans s)
  | bad => exact z
theorem js_nil : JSs G M k own own [] .nx := fun X W gd => ⟨_, pss_nil, fun B O0 σ H O env D E z => z σ H O rfl E⟩
theorem js_cons {st : Stmt} {rest : List Stmt} {f g : Env → Out} (h1 : JS1 G M k own own2 st f) (h2 : JSs G M k own2 own' rest g) : JSs G M k own own' (st :: rest) (fun s => andO (f s) g) := fun X W gd => by
  obtain ⟨t, p, q⟩ := h1 X W gd
  obtain ⟨t2, p2, q2⟩ := h2 X W gd
  refine ⟨_, pss_cons p p2, fun B O0 σ H O env D E z => q B O0 σ H O env _ E ?_⟩
  change PostO own' W G.cA B O0 σ.length (andO (f env) g) D at z
  cases e : f env with
  | nx env' =>
    rw [e] at z
    intro σ' H' O' hl E'
    exact q2 B O0 σ' H' O' env' D E' (by rw [hl]; exact z)
  | ret d => rw [e] at z; exact z
  | ex c => rw [e] at z; exact z
  | bad => rw [e] at z; exact z
theorem js_frz {sts : List Stmt} {f : Env → Out} (h : JSs G M k own2 own' sts f) (hs : ∀ i ∈ own2, i ∈ own) : JSs G M k own own' sts f := fun X W gd => by
  obtain ⟨t, p, q⟩ := h X W gd
  refine ⟨t, p, fun B O0 σ H O env D E z => ?_⟩
  obtain ⟨O', E'⟩ := E.fit (own' := own2) fun i hi => .inl (hs i hi)
  exact q B O0 σ H O' env D E' z
/-- the end with fewer own lists -/
theorem PostO.fit {o : Out} (h : PostO own' W cA B O0 n o De) (hs : ∀ i ∈ own', i ∈ own) : PostO own W cA B O0 n o De := by
  cases o with
  | nx e =>
    intro σ H O hl E
    obtain ⟨O', E'⟩ := E.fit (own' := own') fun i hi => .inl (hs i hi)
    exact h σ H O' hl E'
  | ret d => exact h
  | ex c => exact h
  | bad => exact h

/-! ### name = e -/
/-- the assignment of e to a name, by what e tells -/
def JSet (G : Gx) (M : MC) (k : Nat) (own : List Nat) (i : Nat) (st : Stmt) (f : Env → R D) : Prop := ∀ X W, Good G M k W X → ∃ t, PS X st (tAsg t (gName i)) ∧ ∀ σ H O env Q, EnvR own H O env σ → Post W G.cA σ H (relD O) (f env) Q → t σ H Q
theorem js_set {i : Nat} {st : Stmt} {f : Env → R D} (h : JSet G M k own i st f) : JS1 G M k own (own.filter fun j => decide (j ≠ i)) st (fun s => out (f s) fun d => .nx (s.set i (some d))) := fun X W gd => by
  obtain ⟨t, p, q⟩ := h X W gd.toGood
  refine ⟨_, p, fun B O0 σ H O env D E z => q σ H O env _ E.toEnvR (PostO.run z E fun d v H' _ s r z' => ?_)⟩
  exact z' _ H' O (by rw [List.length_set]) ((E.mono s).set r)
def notLc : Expr → Bool
  | .Name .. => true
  | .Constant .. => true
  | .Call .. => true
  | .Subscript .. => true
  | .Tuple .. => true
  | .List .. => true
  | .BinOp .. => true
  | .UnaryOp .. => true
  | .BoolOp .. => true
  | .Compare .. => true
  | .IfExp .. => true
  | .Attribute .. => true
  | _ => false
theorem notLc_of {e : Expr} (h : notLc e = true) (tg : Option Expr) (line : Nat) (env : PySem.Env) : swapsWith e tg line env = pure false := by
  cases e <;> first | rfl | cases h
theorem store_of {X : Cx} (g : Good G M k W X) {i : Nat} {x : Str} (h : storeB M i x = true) : X.N.Nodup ∧ X.N[i]? = some x ∧ Loc X.env.scope x ∧ (X.fn x = true ∨ X.env.scope.names.lookup x = some .local) := by
  unfold storeB at h
  simp only [Bool.and_eq_true, Bool.or_eq_true, decide_eq_true_eq] at h
  obtain ⟨h1, h2⟩ := h
  refine ⟨by rw [g.N]; exact g.nd, by rw [g.N]; exact h1, ?_⟩
  rcases h2 with h2 | ⟨h2, h3⟩
  · have e : X.env.scope.names.lookup x = some .local := by rw [g.nm]; exact h2
    exact ⟨.inl e, .inr e⟩
  · have e : X.env.scope.names.lookup x = some .cell := by rw [g.nm]; exact h2
    exact ⟨.inr e, .inl (by rw [g.fn]; exact h3)⟩
theorem jset_plain {i : Nat} {x : Str} {e : Expr} {p pos : Pos} {f : Env → R D} (hi : storeB M i x = true) (hl : notLc e = true) (h : JE G M k own e f) : JSet G M k own i (.Assign [.Name x p] e pos) f := fun X W gd => by
  obtain ⟨t, p, q⟩ := h X W gd
  obtain ⟨h1, h2, h3, h4⟩ := store_of gd hi
  exact ⟨t, ps_set h1 h2 h3 p (notLc_of hl _ _ _) h4, q⟩
/-- whether the list goes to the name ahead of the comprehension's own names -/
def swB (M : MC) (x : Str) (p : Pos) (scope : Scope) (pos : Pos) : Bool := decide (M.nm.lookup x = some .local) && (p.line == pos.line) && !(scope.names.any fun (n, k) => n == x && (k == .local || k == .cell))
theorem swB_of {X : Cx} (g : Good G M k W X) {x : Str} {p : Pos} {elt : Expr} {gens : List Comprehension} {scope : Scope} {pos : Pos} {line : Nat} : swapsWith (.ListComp elt gens scope pos) (some (.Name x p)) line X.env = pure (swB M x p scope pos) := by
  have hb : X.env.blockKind = .function := by
    unfold Env.blockKind
    rw [g.kind]
    rfl
  have e : X.env.kindOf x = M.nm.lookup x := by
    show X.env.scope.names.lookup x = _
    rw [g.nm]
  have e2 : (M.nm.lookup x == some NameKind.local) = decide (M.nm.lookup x = some .local) := by
    cases M.nm.lookup x with
    | none => rfl
    | some y => cases y <;> rfl
  show (pure (X.env.blockKind == ScopeKind.function && X.env.kindOf x == some .local && p.line == pos.line && !(scope.names.any fun (n, k) => n == x && (k == .local || k == .cell))) : Sem Bool) = _
  rw [hb, e, e2]
  rfl
/-! ### name = a comprehension; name = a new list -/
def JSetF (G : Gx) (M : MC) (k : Nat) (own : List Nat) (i : Nat) (st : Stmt) (f : Env → R D) : Prop := ∀ X W, Good G M k W X → ∃ t, PS X st (tAsg t (gName i)) ∧ ∀ σ H O env Q, EnvR own H O env σ → PostL W G.cA σ H O (listOf (f env)) Q → t σ H Q
theorem js_setO {i : Nat} {st : Stmt} {f : Env → R D} (h : JSetF G M k own i st f) : JS1 G M k own (i :: own.filter fun j => decide (j ≠ i)) st (fun s => out (listOf (f s)) fun xs => .nx (s.set i (some (.list xs)))) := fun X W gd => by
  obtain ⟨t, p, q⟩ := h X W gd.toGood
  refine ⟨_, p, fun B O0 σ H O env D E z => q σ H O env _ E.toEnvR ?_⟩
  change PostO _ W G.cA B O0 σ.length (out (listOf (f env)) fun xs => .nx (env.set i (some (.list xs)))) D at z
  cases e : listOf (f env) with
  | ok ds =>
    rw [e] at z
    intro p vs H' s hp hv r
    exact z _ H' _ (by rw [List.length_set]) (E.setO s hp hv r)
  | ex c =>
    rw [e] at z
    exact fun H' s => z σ H' rfl (E.base.trans s)
  | bad => rw [e] at z; exact z
theorem lc_set {m : Bool} {elt tg iter : Expr} {ifs : List Expr} {scope : Scope} {pos : Pos} {t : T} {vs : List Nat} {fit : Env → R (List D)} {fc : Env → R Bool} {fe : Env → R D} (L : LcOk G M k own m elt tg iter ifs scope t vs fit fc fe) {i : Nat} {x : Str} {p spos : Pos} (hi : storeB M i x = true) :
    ∀ X W, Good G M k W X → ∃ tt : TE, PS X (.Assign [.Name x p] (.ListComp elt [⟨tg, iter, ifs, 0⟩] scope pos) spos) (tAsg tt (gName i)) ∧ ∀ σ H O env Q, EnvR own H O env σ → PostL W G.cA σ H O (do let xs ← fit env; lcD (lcF t vs fc fe env) xs) Q → tt σ H Q := fun X W gd => by
  obtain ⟨tt, h1, h2, q⟩ := L.tl X W gd
  obtain ⟨g1, g2, g3, g4⟩ := store_of gd hi
  refine ⟨tt, ?_, q⟩
  have hs := swB_of (line := spos.line) (p := p) gd (x := x) (elt := elt) (gens := [⟨tg, iter, ifs, 0⟩]) (scope := scope) (pos := pos)
  cases e : swB M x p scope pos with
  | true =>
    rw [e] at hs
    have hl : X.env.scope.names.lookup x = some .local := by
      unfold swB at e
      simp only [Bool.and_eq_true, decide_eq_true_eq] at e
      rw [gd.nm]
      exact e.1.1
    exact h2 i x p pos spos g2 hl hs
  | false =>
    rw [e] at hs
    exact ps_set g1 g2 g3 (h1 pos) hs g4
theorem jset_lc {m : Bool} {elt tg iter : Expr} {ifs : List Expr} {scope : Scope} {pos : Pos} {t : T} {vs : List Nat} {fit : Env → R (List D)} {fc : Env → R Bool} {fe : Env → R D} (L : LcOk G M k own m elt tg iter ifs scope t vs fit fc fe) {i : Nat} {x : Str} {p spos : Pos} (hi : storeB M i x = true) :
    JSet G M k own i (.Assign [.Name x p] (.ListComp elt [⟨tg, iter, ifs, 0⟩] scope pos) spos) (fun s => do let xs ← fit s; let ys ← lcD (lcF t vs fc fe s) xs; .ok (.list ys)) := fun X W gd => by
  obtain ⟨tt, h, q⟩ := lc_set L (p := p) (spos := spos) (pos := pos) hi X W gd
  refine ⟨tt, h, fun σ H O env Q E z => q σ H O env Q E (post_l E.ok ?_)⟩
  rw [← lcden]
  exact z
theorem jsetF_lc {m : Bool} {elt tg iter : Expr} {ifs : List Expr} {scope : Scope} {pos : Pos} {t : T} {vs : List Nat} {fit : Env → R (List D)} {fc : Env → R Bool} {fe : Env → R D} (L : LcOk G M k own m elt tg iter ifs scope t vs fit fc fe) {i : Nat} {x : Str} {p spos : Pos} (hi : storeB M i x = true) :
    JSetF G M k own i (.Assign [.Name x p] (.ListComp elt [⟨tg, iter, ifs, 0⟩] scope pos) spos) (fun s => do let xs ← fit s; let ys ← lcD (lcF t vs fc fe s) xs; .ok (.list ys)) := fun X W gd => by
  obtain ⟨tt, h, q⟩ := lc_set L (p := p) (spos := spos) (pos := pos) hi X W gd
  refine ⟨tt, h, fun σ H O env Q E z => q σ H O env Q E ?_⟩
  have e : listOf (do let xs ← fit env; let ys ← lcD (lcF t vs fc fe env) xs; .ok (.list ys) : R D) = (do let xs ← fit env; lcD (lcF t vs fc fe env) xs) := by
    rw [lcden]
    cases (do let xs ← fit env; lcD (lcF t vs fc fe env) xs : R (List D)) <;> rfl
  rw [e] at z
  exact z
/-- a plain expression that makes a new list -/
def JF (G : Gx) (M : MC) (k : Nat) (own : List Nat) (e : Expr) (f : Env → R D) : Prop := ∀ X W, Good G M k W X → ∃ t, PE X e t ∧ ∀ σ H O env Q, EnvR own H O env σ → PostL W G.cA σ H O (listOf (f env)) Q → t σ H Q
theorem jsetF_plain {i : Nat} {x : Str} {e : Expr} {p pos : Pos} {f : Env → R D} (hi : storeB M i x = true) (hl : notLc e = true) (h : JF G M k own e f) : JSetF G M k own i (.Assign [.Name x p] e pos) f := fun X W gd => by
  obtain ⟨t, p, q⟩ := h X W gd
  obtain ⟨h1, h2, h3, h4⟩ := store_of gd hi
  exact ⟨t, ps_set h1 h2 h3 p (notLc_of hl _ _ _) h4, q⟩
theorem PostL.seq {α β : Type} {rel : Hp → α → β → Prop} {r : R β} {f : β → R (List D)} {Q : V → Hp → Prop} {Q' : α → Hp → Prop} (z : PostL W cA σ H O (r >>= f) Q) (q : ∀ d v H', r = .ok d → Same H H' → rel H' v d → PostL W cA σ H O (f d) Q → Q' v H') : Post W cA σ H rel r Q' := by
  cases r with
  | ok d => exact fun v H' s rv => q d v H' rfl s rv z
  | ex c => exact z
  | bad => exact z
theorem PostL.mono {r : R (List D)} {Q : V → Hp → Prop} {H' : Hp} (z : PostL W cA σ H O r Q) (s : Same H H') : PostL W cA σ H' O r Q := by
  cases r with
  | ok ds => exact fun p vs H2 s2 hp => z p vs H2 (s.trans s2) (fresh_of s hp)
  | ex c => exact fun H2 s2 => z H2 (s.trans s2)
  | bad => exact z
theorem jf_lst {es : List Expr} {pos : Pos} {f : Env → R (List D)} (h : JA G M k own es f) (hn : es.length ≤ 1000) (hl : ∀ env ds, f env = .ok ds → ds.length = es.length) : JF G M k own (.List es pos) (fun s => do let ds ← f s; .ok (.list ds)) := fun X W gd => by
  obtain ⟨ta, p, q⟩ := h X W gd
  refine ⟨_, pe_lst p, fun σ H O env Q E z => q σ H O env _ E ?_⟩
  have z : PostL W G.cA σ H O (f env >>= .ok) Q := by
    cases e : f env <;> simpa [e, listOf] using z
  refine PostL.seq z fun ds vs H' e s r z' => ⟨?_, fun p hp => z'.new s r hp⟩
  rw [r.length, hl env ds e]
  exact line_of hn
theorem jf_listOf {x a : Expr} {f : Env → R D} (h : call1 M "list" x = some a) (ha : JB G M k own a f) : JF G M k own x (fun s => do let d ← f s; op1D .listOf d) := fun X W gd => by
  obtain ⟨_, _, rfl, h1, h2⟩ := call1_of (s := "list") h
  obtain ⟨ta, p, q⟩ := ha X W gd
  refine ⟨_, pe_callTy call_list_of (gl_of gd h2).2 (blt_in gd) PyProof.Rows.boot_list (pa_cons p pa_nil (star_cons h1 _ _)) (by decide) (by decide) (star_cons h1 _ _) rfl, fun σ H O env Q E z => q σ H O env _ E ?_⟩
  have z : PostL W G.cA σ H O (f env >>= fun d => listOf (op1D .listOf d)) Q := by
    cases e : f env <;> simpa [e, listOf] using z
  refine PostL.seq z fun d v H' _ s r z' => ?_
  cases d with
  | list xs =>
    obtain ⟨a, vs, rfl, ha, ra⟩ := r.list hid_sub
    exact ⟨a, vs, rfl, .inl (sq_l ha), fun l hl => z'.new s ra hl⟩
  | tuple xs =>
    obtain ⟨a, vs, rfl, ha, ra⟩ := r.tuple hid_sub
    exact ⟨a, vs, rfl, .inr (sq_t ha), fun l hl => z'.new s ra hl⟩
  | _ => exact z'.elim
theorem jf_mul {x a b : Expr} {f g : Env → R D} (h : binV .Mult x = some (a, b)) (ha : JB G M k own a f) (hb : JB G M k own b g) : JF G M k own x (fun s => do let d ← f s; let e ← g s; op2D .mul d e) := fun X W gd => by
  obtain ⟨_, rfl⟩ := binV_of h
  obtain ⟨ta, p, q⟩ := ha X W gd
  obtain ⟨tb, p2, q2⟩ := hb X W gd
  refine ⟨_, pe_op op_rep p p2, fun σ H O env Q E z => q σ H O env _ E ?_⟩
  have z : PostL W G.cA σ H O (f env >>= fun d => g env >>= fun e => listOf (op2D .mul d e)) Q := by
    cases e : f env with
    | ok d => cases e2 : g env <;> simpa [e, e2, listOf] using z
    | ex c => simpa [e, listOf] using z
    | bad => simpa [e, listOf] using z
  refine PostL.seq z fun d v H1 _ s1 r1 z1 => ?_
  refine q2 σ H1 O env _ (E.mono s1) (PostL.seq (z1.mono s1) fun d2 v2 H2 _ s2 r2 z2 => ?_)
  cases d with
  | list as =>
    cases d2 with
    | int j =>
      change PostL W G.cA σ H1 O (listOf (if decide (j ≤ 1000) && decide (-1000000 < j) && decide (as.length ≤ 1000) then .ok (.list (repL as j)) else .bad)) Q at z2
      split at z2
      · rename_i h
        simp only [Bool.and_eq_true, decide_eq_true_eq] at h
        obtain ⟨⟨h1, h2⟩, h3⟩ := h
        obtain ⟨a, xs, rfl, ha, ra⟩ := (r1.mono s2 (hid_mono s2)).list hid_sub
        refine ⟨a, j, xs, rfl, r2.int, ha, by omega, by omega, line_le ?_, fun p hp => z2.new s2 (ra.rep _) hp⟩
        rw [ra.length]
        exact Nat.le_trans (Nat.mul_le_mul h3 (show j.toNat ≤ 1000 by omega)) (by decide)
      · exact z2.elim
    | _ => exact z2.elim
  | int i =>
    cases d2 with
    | int j =>
      change PostL W G.cA σ H1 O (listOf (if _ then _ else _)) Q at z2
      split at z2 <;> exact z2.elim
    | _ => exact z2.elim
  | tuple i =>
    cases d2 with
    | int j =>
      change PostL W G.cA σ H1 O (listOf (if _ then _ else _)) Q at z2
      split at z2 <;> exact z2.elim
    | _ => exact z2.elim
  | _ => cases d2 <;> exact z2.elim

/-! ### a, b = e -/
def tupTgt : Expr → Bool
  | .Name .. => true
  | .Call .. => true
  | .Subscript .. => true
  | _ => false
theorem setAll_step : ∀ {is : List Nat} {ds : List D} {vs : List V} {env env' : Env} {σ : L2.St} {own : List Nat} {B : Hp} {O0 : List Addr} {H : Hp} {O : List Addr} {Q : L2.St → Hp → Prop}, EnvS own B O0 H O env σ → RpA (hid H O) vs ds → setAll is ds env = .ok env' →
    (∀ σ', σ'.length = σ.length → EnvS (own.filter fun j => decide (j ∉ is)) B O0 H O env' σ' → Q σ' H) → gNames is vs σ H Q
  | [], [], _, env, _, σ, own, _, _, _, _, _, E, .nil, h, q => by
    cases h
    refine ⟨rfl, q σ rfl ?_⟩
    rw [show (own.filter fun j => decide (j ∉ ([] : List Nat))) = own from List.filter_eq_self.mpr fun _ _ => by simp]
    exact E
  | [], _ :: _, _, _, _, _, _, _, _, _, _, _, _, _, h, _ => by cases h
  | _ :: _, [], _, _, _, _, _, _, _, _, _, _, _, _, h, _ => by cases h
  | i :: is, d :: ds, _, env, env', σ, own, B, O0, H, O, Q, E, .cons r t, h, q => by
    refine ⟨_, _, rfl, setAll_step (E.set r) t h fun σ' hl E' => q σ' (by rw [hl, List.length_set]) ?_⟩
    rw [List.filter_filter] at E'
    have e : (own.filter fun j => decide (j ∉ i :: is)) = own.filter (fun j => decide (j ∉ is) && decide (j ≠ i)) := by
      refine List.filter_congr fun j _ => ?_
      simp [not_or, Bool.and_comm]
    rw [e]
    exact E'
theorem js_setT {is : List Nat} {es : List Expr} {e : Expr} {kk : Nat} {p pos : Pos} {f : Env → R D} (hs : storesB M is es = true) (ht : tupTgt e = true) (h : JE G M k own e f) :
    JS1 G M k own (own.filter fun j => decide (j ∉ is)) (.Assign [.Tuple es kk p] e pos) (fun s => out (f s) fun d => out (bindT (.tup is) d s) .nx) := fun X W gd => by
  obtain ⟨t, p, q⟩ := h X W gd.toGood
  obtain ⟨h1, h2⟩ := assignEach_names X.env hs
  refine ⟨_, ps_asg p (pg_tup gd.calm (pgs_names gd.toGood hs) h1 h2) (by cases e <;> first | rfl | cases ht) (by cases e <;> first | rfl | cases ht) rfl, fun B O0 σ H O env De E z => q σ H O env _ E.toEnvR (PostO.run z E fun d v H' _ s r z' => ?_)⟩
  cases d with
  | tuple ds =>
    change PostO _ W G.cA B O0 σ.length (out (if is.length = ds.length then setAll is ds env else .bad) .nx) De at z'
    split at z'
    · rename_i hl
      cases e : setAll is ds env with
      | ok env' =>
        rw [e] at z'
        cases r with
        | tup ea r =>
          exact ⟨_, _, rfl, sq_t (hid_sub _ _ ea), by rw [r.length, hl], setAll_step (E.mono s) r e fun σ' hl E' => z' σ' H' O hl E'⟩
      | ex c =>
        exfalso
        clear z' r
        have : ∀ (is : List Nat) (ds : List D) (env : Env), setAll is ds env ≠ .ex c := fun is => by
          induction is with
          | nil => intro ds env; cases ds <;> exact fun h => by cases h
          | cons i is ih => intro ds env; cases ds with
            | nil => exact fun h => by cases h
            | cons d ds => exact ih ds _
        exact this _ _ _ e
      | bad => rw [e] at z'; exact z'.elim
    · exact z'.elim
  | _ => exact z'.elim
end
section
variable {G : Gx} {M : MC} {k : Nat} {own own' own1 own2 : List Nat} {W : WX} {cA : Nat → Addr} {B B' : Hp} {O0 O1 : List Addr} {H : Hp} {O : List Addr} {env : Env} {σ : L2.St} {De : Ends} {n : Nat}
theorem pv_of {X : Cx} (g : Good G M k W X) {i : Nat} {x : Str} {pos : Pos} (h : nmB M i x = true) : PE X (.Name x pos) (tVar i) := by
  unfold nmB at h
  simp only [Bool.and_eq_true, Bool.not_eq_true', decide_eq_true_eq] at h
  obtain ⟨⟨⟨h1, h2⟩, h3⟩, h4⟩ := h
  exact pe_var (by rw [g.N]; exact h1) (vis_of g h2) h3 h4
theorem listAt_cases (env : Env) (i : Nat) : (∃ xs, listAt env i = .ok xs ∧ env.getD i none = some (.list xs)) ∨ listAt env i = .bad := by
  unfold listAt getV
  cases env.getD i none with
  | none => exact .inr rfl
  | some d => cases d <;> first | exact .inl ⟨_, rfl, rfl⟩ | exact .inr rfl
/-- an own list at hand -/
theorem EnvS.list (E : EnvS own B O0 H O env σ) {i : Nat} {xs : List D} (hi : i ∈ own) (hd : env.getD i none = some (.list xs)) : ∃ a vs, σ[i]? = some (some (.ref a)) ∧ H a = some (.lst vs) ∧ RpA (hid H O) vs xs := by
  obtain ⟨a, vs, ds, h1, h2, h3, _, h5⟩ := E.held i _ hi hd
  cases h2
  exact ⟨a, vs, h1, h3, h5⟩
theorem few1 {env : PySem.Env} {cp : Pos} {e : Expr} (h : notStar e = true) : ((backTo cp (starEach [e] env)).all (fun x => !x.1) && (backToKw cp (keywordEach [] env)).all (fun x => x.1.isSome)
      && decide ([e].length + ([] : List Keyword).length + (if ([] : List Keyword).isEmpty then 0 else 1) < 30)) = true := by
  rw [star_cons h]
  rfl
theorem few2 {env : PySem.Env} {cp : Pos} {e f : Expr} (h : notStar e = true) (h2 : notStar f = true) : ((backTo cp (starEach [e, f] env)).all (fun x => !x.1) && (backToKw cp (keywordEach [] env)).all (fun x => x.1.isSome)
      && decide ([e, f].length + ([] : List Keyword).length + (if ([] : List Keyword).isEmpty then 0 else 1) < 30)) = true := by
  rw [star_cons h, star_cons h2]
  rfl
theorem js_app {i : Nat} {x : Str} {e : Expr} {p1 ap cp pos : Pos} {f : Env → R D} (hx : nmB M i x = true) (hi : i ∈ own) (hn : notStar e = true) (hl : (ap.endLine == cp.line) = true) (h : JE G M k own e f) :
    JS1 G M k own own (.Expr (.Call (.Attribute (.Name x p1) (Str.ofString "append") ap) [e] [] cp) pos) (fun s => out (listAt s i) fun xs => out (f s) fun d => if xs.length < 1000000 then .nx (s.set i (some (.list (xs ++ [d])))) else .bad) := fun X W gd => by
  obtain ⟨t, p, q⟩ := h X W gd.toGood
  refine ⟨_, ps_expr (pe_bm PySem.F.plainAttrs_list PySem.F.slot_list_append PySem.F.type_list_append mt_append (pv_of gd.toGood hx) (pa_cons p pa_nil (star_cons hn _ _)) rfl (few1 hn) hl (star_cons hn _ _) rfl) rfl, fun B O0 σ H O env De E z => ?_⟩
  change PostO own W G.cA B O0 σ.length (out (listAt env i) fun xs => out (f env) fun d => if xs.length < 1000000 then .nx (env.set i (some (.list (xs ++ [d])))) else .bad) De at z
  rcases listAt_cases env i with ⟨xs, e1, e2⟩ | e1
  · rw [e1] at z
    obtain ⟨a, vs, h1, h2, h3⟩ := E.list hi e2
    refine ⟨_, h1, .inl ⟨rfl, vs, sq_l h2⟩, q σ H O env _ E.toEnvR (PostO.run z E fun d v H1 _ s r z' => ?_)⟩
    change PostO own W G.cA B O0 σ.length (if xs.length < 1000000 then .nx (env.set i (some (.list (xs ++ [d])))) else .bad) De at z'
    split at z'
    · rename_i hlen
      refine ⟨a, vs, v, rfl, rfl, s _ _ h2, by rw [h3.length, sizeLine_eq]; omega, ?_⟩
      exact z' σ _ O rfl ((E.mono s).write hi e2 h1 ((h3.mono (hid_mono s)).append (.one r)))
    · exact z'.elim
  · rw [e1] at z
    exact z.elim
theorem js_ins {i : Nat} {x : Str} {e e2 : Expr} {p1 ap cp pos : Pos} {f g : Env → R D} (hx : nmB M i x = true) (hi : i ∈ own) (hn : notStar e = true) (hn2 : notStar e2 = true) (hl : (ap.endLine == cp.line) = true) (h : JB G M k own e f) (h' : JE G M k own e2 g) :
    JS1 G M k own own (.Expr (.Call (.Attribute (.Name x p1) (Str.ofString "insert") ap) [e, e2] [] cp) pos) (fun s => out (listAt s i) fun xs => out (intOf (f s)) fun j => out (g s) fun d =>
      if xs.length < 1000000 then out (insertD xs j d) fun ys => .nx (s.set i (some (.list ys))) else .bad) := fun X W gd => by
  obtain ⟨t, p, q⟩ := h X W gd.toGood
  obtain ⟨t2, p2, q2⟩ := h' X W gd.toGood
  refine ⟨_, ps_expr (pe_bm PySem.F.plainAttrs_list PySem.F.slot_list_insert PySem.F.type_list_insert mt_insert (pv_of gd.toGood hx) (pa_cons p (pa_cons p2 pa_nil (star_cons hn2 _ _)) (star_cons hn _ _)) rfl (few2 hn hn2) hl (star_cons hn _ _) (by rw [star_cons hn2] <;> rfl)) rfl, fun B O0 σ H O env De E z => ?_⟩
  change PostO own W G.cA B O0 σ.length (out (listAt env i) fun xs => out (intOf (f env)) fun j => out (g env) fun d => if xs.length < 1000000 then out (insertD xs j d) fun ys => .nx (env.set i (some (.list ys))) else .bad) De at z
  rcases listAt_cases env i with ⟨xs, e1, e2⟩ | e1
  · rw [e1] at z
    obtain ⟨a, vs, h1, h2, h3⟩ := E.list hi e2
    refine ⟨_, h1, .inl ⟨rfl, vs, sq_l h2⟩, ?_⟩
    change t σ H _
    refine q σ H O env _ E.toEnvR ?_
    change PostO own W G.cA B O0 σ.length (out (intOf (f env)) fun j => out (g env) fun d => if xs.length < 1000000 then out (insertD xs j d) fun ys => .nx (env.set i (some (.list ys))) else .bad) De at z
    rcases intOf_cases (f env) with ⟨j, ej⟩ | ⟨c, ej⟩ | ej
    · rw [ej] at z ⊢
      intro v H1 s1 r1
      refine q2 σ H1 O env _ (E.mono s1).toEnvR (PostO.run (r := g env) z (E.mono s1) fun d w H2 _ s2 r2 z' => ?_)
      change PostO own W G.cA B O0 σ.length (if xs.length < 1000000 then out (insertD xs j d) fun ys => .nx (env.set i (some (.list ys))) else .bad) De at z'
      split at z'
      · rename_i hlen
        unfold insertD at z'
        split at z'
        · rename_i hj
          simp only [Bool.and_eq_true, decide_eq_true_eq] at hj
          have s12 := s1.trans s2
          refine ⟨a, vs, j, w, rfl, by rw [r1.int], s12 _ _ h2, by rw [h3.length, sizeLine_eq]; omega, hj.1, by omega, ?_⟩
          have h3' := h3.mono (hid_mono s12)
          exact z' σ _ O rfl ((E.mono s12).write hi e2 h1 (((h3'.take _).append (.one r2)).append (h3'.drop _)))
        · exact z'.elim
      · exact z'.elim
    · rw [ej] at z ⊢
      exact fun H' s => z σ H' rfl (E.base.trans s)
    · rw [ej] at z
      exact z.elim
  · rw [e1] at z
    exact z.elim
theorem js_ext {i : Nat} {x : Str} {e : Expr} {p1 ap cp pos : Pos} {f : Env → R D} (hx : nmB M i x = true) (hi : i ∈ own) (hn : notStar e = true) (hl : (ap.endLine == cp.line) = true) (h : JB G M k own e f) :
    JS1 G M k own own (.Expr (.Call (.Attribute (.Name x p1) (Str.ofString "extend") ap) [e] [] cp) pos) (fun s => out (listAt s i) fun xs => out (listOf (f s)) fun ys => if xs.length + ys.length ≤ 1000000 then .nx (s.set i (some (.list (xs ++ ys)))) else .bad) := fun X W gd => by
  obtain ⟨t, p, q⟩ := h X W gd.toGood
  refine ⟨_, ps_expr (pe_bm PySem.F.plainAttrs_list PySem.F.slot_list_extend PySem.F.type_list_extend mt_extend (pv_of gd.toGood hx) (pa_cons p pa_nil (star_cons hn _ _)) rfl (few1 hn) hl (star_cons hn _ _) rfl) rfl, fun B O0 σ H O env De E z => ?_⟩
  change PostO own W G.cA B O0 σ.length (out (listAt env i) fun xs => out (listOf (f env)) fun ys => if xs.length + ys.length ≤ 1000000 then .nx (env.set i (some (.list (xs ++ ys)))) else .bad) De at z
  rcases listAt_cases env i with ⟨xs, e1, e2⟩ | e1
  · rw [e1] at z
    obtain ⟨a, vs, h1, h2, h3⟩ := E.list hi e2
    refine ⟨_, h1, .inl ⟨rfl, vs, sq_l h2⟩, ?_⟩
    change t σ H _
    refine q σ H O env _ E.toEnvR ?_
    change PostO own W G.cA B O0 σ.length (out (listOf (f env)) fun ys => if xs.length + ys.length ≤ 1000000 then .nx (env.set i (some (.list (xs ++ ys)))) else .bad) De at z
    cases ef : f env with
    | bad => rw [ef] at z; exact z.elim
    | ex c => rw [ef] at z; exact fun H' s => z σ H' rfl (E.base.trans s)
    | ok d =>
      rw [ef] at z
      cases d with
      | list ys =>
        change PostO own W G.cA B O0 σ.length (if xs.length + ys.length ≤ 1000000 then .nx (env.set i (some (.list (xs ++ ys)))) else .bad) De at z
        split at z
        · rename_i hlen
          intro v H1 s r
          obtain ⟨b, ws, rfl, hb, rb⟩ := r.list hid_sub
          refine ⟨a, b, vs, ws, rfl, rfl, s _ _ h2, hb, line_le (by rw [h3.length, rb.length]; exact hlen), ?_⟩
          exact z σ _ O rfl ((E.mono s).write hi e2 h1 ((h3.mono (hid_mono s)).append rb))
        · exact z.elim
      | _ => exact z.elim
  · rw [e1] at z
    exact z.elim
theorem js_put {i : Nat} {x : Str} {a e : Expr} {p1 sp pos : Pos} {f g : Env → R D} (hx : nmB M i x = true) (hi : i ∈ own) (hix : ixOk a = true) (hl : notLc e = true) (h : JB G M k own a f) (h' : JE G M k own e g) :
    JS1 G M k own own (.Assign [.Subscript (.Name x p1) a sp] e pos) (fun s => out (g s) fun d => out (listAt s i) fun xs => out (intOf (f s)) fun j => match placeD xs.length j with
      | some l => .nx (s.set i (some (.list (xs.set l d))))
      | none => .bad) := fun X W gd => by
  obtain ⟨t, p, q⟩ := h X W gd.toGood
  obtain ⟨t2, p2, q2⟩ := h' X W gd.toGood
  refine ⟨_, ps_asg p2 (pg_sub (pv_of gd.toGood hx) p set_list (fun v => by cases a <;> first | rfl | cases hix)) (by cases e <;> first | rfl | cases hl) (by cases e <;> first | rfl | cases hl) rfl, fun B O0 σ H O env De E z => q2 σ H O env _ E.toEnvR (PostO.run z E fun d w H1 _ s1 r1 z1 => ?_)⟩
  change PostO own W G.cA B O0 σ.length (out (listAt env i) fun xs => out (intOf (f env)) fun j => match placeD xs.length j with | some l => .nx (env.set i (some (.list (xs.set l d)))) | none => .bad) De at z1
  rcases listAt_cases env i with ⟨xs, e1, e2⟩ | e1
  · rw [e1] at z1
    have E1 := E.mono s1
    obtain ⟨b, vs, h1, h2, h3⟩ := E1.list hi e2
    refine ⟨_, h1, q σ H1 O env _ E1.toEnvR ?_⟩
    change PostO own W G.cA B O0 σ.length (out (intOf (f env)) fun j => match placeD xs.length j with | some l => .nx (env.set i (some (.list (xs.set l d)))) | none => .bad) De at z1
    rcases intOf_cases (f env) with ⟨j, ej⟩ | ⟨c, ej⟩ | ej
    · rw [ej] at z1 ⊢
      intro v H2 s2 r2
      change PostO own W G.cA B O0 σ.length (match placeD xs.length j with | some l => .nx (env.set i (some (.list (xs.set l d)))) | none => .bad) De at z1
      cases ep : placeD xs.length j with
      | none => rw [ep] at z1; exact z1.elim
      | some l =>
        rw [ep] at z1
        refine ⟨b, vs, j, l, rfl, r2.int, s2 _ _ h2, by rw [place_ix, h3.length]; exact ep, ?_⟩
        exact z1 σ _ O rfl ((E1.mono s2).write hi e2 h1 (RpA.set (r1.mono (hid_mono s2)) l (h3.mono (hid_mono s2))))
    · rw [ej] at z1 ⊢
      exact fun H' s => z1 σ H' rfl (E1.base.trans s)
    · rw [ej] at z1
      exact z1.elim
  · rw [e1] at z1
    exact z1.elim
theorem js_if {c : Expr} {p q : List Stmt} {pos : Pos} {h : Env → R Bool} {f g : Env → Out} (hc : JT G M k own c h) (hp : JSs G M k own own1 p f) (hq : JSs G M k own own2 q g) (h1 : ∀ i ∈ own', i ∈ own1) (h2 : ∀ i ∈ own', i ∈ own2) :
    JS1 G M k own own' (.If c p q pos) (fun s => out (h s) fun b => if b then f s else g s) := fun X W gd => by
  obtain ⟨t, pc, qc⟩ := hc X W gd.toGood
  obtain ⟨t1, p1, q1⟩ := hp X W gd
  obtain ⟨t2, p2, q2⟩ := hq X W gd
  refine ⟨_, ps_if pc p1 p2, fun B O0 σ H O env De E z => qc σ H O env _ E.toEnvR (PostO.run z E fun b v H1 _ s r z1 => ?_)⟩
  obtain rfl : v = b := r
  cases v with
  | true => exact q1 B O0 σ H1 O env De (E.mono s) (PostO.fit z1 h1)
  | false => exact q2 B O0 σ H1 O env De (E.mono s) (PostO.fit z1 h2)
theorem js_ret {e : Expr} {pos : Pos} {f : Env → R D} (h : JE G M k own e f) : JS1 G M k own own' (.Return (some e) pos) (fun s => out (f s) .ret) := fun X W gd => by
  obtain ⟨t, p, q⟩ := h X W gd.toGood
  exact ⟨_, ps_ret p, fun B O0 σ H O env De E z => q σ H O env _ E.toEnvR (PostO.run z E fun d v H1 _ s r z1 => z1 v H1 (E.base.trans s) (r.mono (hid_anti E.sub)))⟩
theorem js_retO {i : Nat} {x : Str} {p pos : Pos} (hx : nmB M i x = true) (hi : i ∈ own) : JS1 G M k own own' (.Return (some (.Name x p)) pos) (fun s => out (getV s i) .ret) := fun X W gd => by
  refine ⟨_, ps_ret (pv_of gd.toGood hx), fun B O0 σ H O env De E z => ?_⟩
  change PostO own' W G.cA B O0 σ.length (out (getV env i) .ret) De at z
  unfold getV at z
  cases e : env.getD i none with
  | none => rw [e] at z; exact z.elim
  | some d =>
    rw [e] at z
    obtain ⟨a, vs, ds, h1, rfl, h3, _, h5⟩ := E.held i d hi e
    exact ⟨_, h1, z _ _ E.base (.lst (hid_at (E.fresh i _ a hi e h1).2 h3) (h5.mono (hid_anti E.sub)))⟩
theorem js_retN {pos : Pos} : JS1 G M k own own' (.Return none pos) (fun _ => .ret .none) := fun X W gd => ⟨_, ps_retN, fun B O0 σ H O env De E z => z _ _ E.base .non⟩
theorem js_exp {e : Expr} {pos : Pos} {f : Env → R D} (hl : notLc e = true) (h : JE G M k own e f) : JS1 G M k own own (.Expr e pos) (fun s => out (f s) fun _ => .nx s) := fun X W gd => by
  obtain ⟨t, p, q⟩ := h X W gd.toGood
  exact ⟨_, ps_expr p (notLc_of hl _ _ _), fun B O0 σ H O env De E z => q σ H O env _ E.toEnvR (PostO.run z E fun d v H1 _ s r z1 => z1 σ H1 O rfl (E.mono s))⟩
end
section
variable {G : Gx} {M : MC} {k : Nat} {own own' own1 own2 : List Nat} {W : WX} {cA : Nat → Addr} {B B' : Hp} {O0 O1 : List Addr} {H : Hp} {O : List Addr} {env : Env} {σ : L2.St} {De : Ends} {n : Nat}
theorem wipe_none {i : Nat} {s : Env} {ks : List Nat} (h : i ∈ ks) : (wipeE s ks).getD i none = none := by
  cases e : (wipeE s ks).getD i none with
  | none => rfl
  | some d => exact absurd h (wipeE_get e).2
/-- a loop's target: its slots are own no more -/
theorem gT_step {K : PySem.W.Frag} {t : T} {v : V} {d : D} {env' : Env} {Q : L2.St → Hp → Prop} (E : EnvS own B O0 H O env σ) (hn : ∀ i ∈ t.slots, i ∉ own) (r : Rp (hid H O) v d) (h : bindT t d env = .ok env')
    (q : ∀ σ', σ'.length = σ.length → EnvS own B O0 H O env' σ' → Q σ' H) : gT K t v σ H Q := by
  cases t with
  | name i =>
    cases h
    have E' := E.set (i := i) r
    rw [filter_not (hn i List.mem_cons_self)] at E'
    exact q _ (by rw [List.length_set]) E'
  | tup is =>
    cases d with
    | tuple ds =>
      change (if is.length = ds.length then setAll is ds env else .bad) = .ok env' at h
      split at h
      · rename_i hl
        cases r with
        | tup e r =>
          refine ⟨_, _, rfl, sq_t (hid_sub _ _ e), by rw [r.length, hl], setAll_step E r h fun σ' hl E' => q σ' hl ?_⟩
          have ef : (own.filter fun j => decide (j ∉ is)) = own := List.filter_eq_self.mpr fun j m => decide_eq_true fun mm => hn j mm m
          rw [ef] at E'
          exact E'
      · cases h
    | _ => cases h
theorem bindT_cases (t : T) (d : D) (env : Env) : (∃ e, bindT t d env = .ok e) ∨ bindT t d env = .bad := by
  have key : ∀ (is : List Nat) (ds : List D) (env : Env), (∃ e, setAll is ds env = .ok e) ∨ setAll is ds env = .bad := fun is => by
    induction is with
    | nil => intro ds env; cases ds <;> first | exact .inl ⟨_, rfl⟩ | exact .inr rfl
    | cons i is ih => intro ds env; cases ds with
      | nil => exact .inr rfl
      | cons d ds => exact ih ds _
  cases t with
  | name i => exact .inl ⟨_, rfl⟩
  | tup is =>
    cases d with
    | tuple ds =>
      change (∃ e, (if is.length = ds.length then setAll is ds env else .bad) = .ok e) ∨ (if is.length = ds.length then setAll is ds env else .bad) = .bad
      split
      · exact key is ds env
      · exact .inr rfl
    | _ => exact .inr rfl
/-- the walked thing at a later state -/
theorem iter_at {J : It} {ds : List D} {H1 H' : Hp} {O1' O' : List Addr} {env env' : Env} {σ σ' : L2.St} {ownx : List Nat} (it : IterOk (hid H1 O) H1 O J ds) (hB : ∀ b o, hid H1 O b = some o → B' b = some o) (hO : ∀ a ∈ O1', a ∈ O) (E : EnvS ownx B' O1' H' O' env' σ') :
    (∀ (i : Nat) (d : D), ds[i]? = some d → J.go i H' ∧ ∀ x H'', J.yld i H' x H'' → Same H' H'' ∧ Rp (hid H'' O') x d) ∧ ∀ i : Nat, ds.length ≤ i → J.stop i H' := by
  refine it H' O' (fun b o h => E.base b o (hB b o h)) (fun b o h => ?_) E.ok
  refine hid_at (fun m => ?_) (E.base b o (hB b o h))
  rcases E.out b m with m | m
  · exact (hid_some h).1 (hO b m)
  · rw [hB b o h] at m
    cases m
theorem js_for {tg iter : Expr} {body : List Stmt} {pos : Pos} {t : T} {kill : List Nat} {fit : Env → R (List D)} {fb : Env → Out} (hi : JI G M k own true tg iter fit) (ht : tgB M t tg = true) (hn : ∀ i ∈ t.slots, i ∉ own) (hf : foldOk iter = true)
    (hb : JSs G M k own own1 body fb) (h1 : ∀ i ∈ own, i ∈ own1 ∨ i ∈ kill) :
    JS1 G M k own own (.For tg iter body [] pos) (fun s => out (fit s) fun xs => forD (fun x s => out (bindT t x s) fun s' => andO (fb s') fun s'' => .nx (wipeE s'' kill)) xs (wipeE s kill)) := fun X W gd => by
  obtain ⟨wi, p, q⟩ := hi X W gd.toGood
  obtain ⟨tb, pb, qb⟩ := hb X W gd
  refine ⟨_, ps_for (g := gT X.K t) gd.passes gd.calm p (pg_T gd.toGood ht) pb (fun x => foldOk_of hf X.env x), fun B O0 σ H O env De E z => q σ H O env _ E.toEnvR ?_⟩
  change PostO own W G.cA B O0 σ.length (out (fit env) fun xs => forD (fun x s => out (bindT t x s) fun s' => andO (fb s') fun s'' => .nx (wipeE s'' kill)) xs (wipeE env kill)) De at z
  generalize hF : (fun (x : D) (s : Env) => out (bindT t x s) fun s' => andO (fb s') fun s'' => Out.nx (wipeE s'' kill)) = F at z
  cases e : fit env with
  | bad => rw [e] at z; exact z
  | ex c => rw [e] at z; exact fun H' s => z σ H' rfl (E.base.trans s)
  | ok xs =>
    rw [e] at z
    intro J H1 s1 hlen it
    change PostO own W G.cA B O0 σ.length (forD F xs (wipeE env kill)) De at z
    obtain ⟨B', O1, rb, Eb, hB, hO⟩ := ((E.mono s1).wipe kill).rebase
    have it : IterOk (hid H1 O) H1 O J xs := it
    refine ⟨fun i m σ' H' => m = xs.length - i ∧ i ≤ xs.length ∧ σ'.length = σ.length ∧ ∃ O' env', EnvS own B' O1 H' O' env' σ' ∧ PostO own W G.cA B O0 σ.length (forD F (xs.drop i) env') De,
      ⟨xs.length, by simp, Nat.zero_le _, rfl, O, _, Eb, by rw [List.drop_zero]; exact z⟩, ?_⟩
    rintro i m σ' H' ⟨rfl, hi, hl, O', env', E', z'⟩
    obtain ⟨go, stop⟩ := iter_at (env := env) (σ := σ) it hB hO E'
    by_cases hlt : i < xs.length
    · obtain ⟨g1, g2⟩ := go i xs[i] (List.getElem?_eq_getElem hlt)
      rw [List.drop_eq_getElem_cons hlt] at z'
      refine .inr ⟨g1, fun σ2 H2 => σ2.length = σ.length ∧ ∃ O2 env2, EnvS own B' O1 H2 O2 env2 σ2 ∧ PostO own W G.cA B O0 σ.length (forD F (xs.drop (i + 1)) env2) De, fun σ2 H2 hN => ⟨xs.length - (i + 1), by omega, rfl, hlt, hN⟩, fun x H2 hy => ?_⟩
      obtain ⟨s3, rx⟩ := g2 x H2 hy
      change PostO own W G.cA B O0 σ.length (andO (F xs[i] env') (forD F (xs.drop (i + 1)))) De at z'
      rcases bindT_cases t xs[i] env' with ⟨s', eb⟩ | eb
      · have eF : F xs[i] env' = andO (fb s') fun s'' => .nx (wipeE s'' kill) := by
          rw [← hF]
          show out (bindT t xs[i] env') _ = _
          rw [eb]
          rfl
        rw [eF] at z'
        refine gT_step (E'.mono s3) hn rx eb fun σ3 hl3 E3 => qb B' O1 σ3 H2 O' s' _ E3 ?_
        have hl3' : σ3.length = σ.length := by rw [hl3, hl]
        rw [hl3']
        cases ef : fb s' with
        | nx s'' =>
          rw [ef] at z'
          intro σ4 H4 O4 hl4 E4
          obtain ⟨O5, E5⟩ := (E4.wipe kill).fit (own' := own) fun i hi => by
            rcases h1 i hi with h | h
            · exact .inl h
            · exact .inr (wipe_none h)
          exact ⟨hl4, O5, _, E5, z'⟩
        | ret d =>
          rw [ef] at z'
          exact fun v H4 s r => z' v H4 (rb.same.trans s) (r.mono (hid_anti rb.sub))
        | ex c =>
          rw [ef] at z'
          exact fun σ4 H4 hl4 s => z' σ4 H4 hl4 (rb.same.trans s)
        | bad =>
          rw [ef] at z'
          exact z'.elim
      · have eF : F xs[i] env' = .bad := by
          rw [← hF]
          show out (bindT t xs[i] env') _ = _
          rw [eb]
          rfl
        rw [eF] at z'
        exact z'.elim
    · have ei : i = xs.length := by omega
      subst ei
      rw [List.drop_length] at z'
      exact .inl ⟨stop _ (Nat.le_refl _), z' σ' H' O' hl (E'.back rb)⟩
theorem js_while {c : Expr} {body : List Stmt} {pos : Pos} {nt : Nat} {kill : List Nat} {fc : Env → R Bool} {fb : Env → Out} (hc : JT G M k own c fc) (hb : JSs G M k own own1 body fb) (h1 : ∀ i ∈ own, i ∈ own1 ∨ i ∈ kill) :
    JS1 G M k own own (.While c body [] pos) (fun s => whileD fc (fun s => andO (fb s) fun s'' => .nx (wipeE s'' kill)) nt (wipeE s kill)) := fun X W gd => by
  obtain ⟨tc, pc, qc⟩ := hc X W gd.toGood
  obtain ⟨tb, pb, qb⟩ := hb X W gd
  refine ⟨_, ps_while gd.passes pc pb, fun B O0 σ H O env De E z => ?_⟩
  change PostO own W G.cA B O0 σ.length (whileD fc (fun s => andO (fb s) fun s'' => .nx (wipeE s'' kill)) nt (wipeE env kill)) De at z
  refine ⟨fun m σ' H' => σ'.length = σ.length ∧ ∃ O' env', EnvS own B O0 H' O' env' σ' ∧ PostO own W G.cA B O0 σ.length (whileD fc (fun s => andO (fb s) fun s'' => .nx (wipeE s'' kill)) m env') De, ⟨nt, rfl, O, _, E.wipe kill, z⟩, ?_⟩
  rintro m σ' H' ⟨hl, O', env', E', z'⟩
  cases m with
  | zero => exact z'.elim
  | succ m =>
    change PostO own W G.cA B O0 σ.length (out (fc env') fun b => if b = true then andO (andO (fb env') fun s'' => .nx (wipeE s'' kill)) (whileD fc (fun s => andO (fb s) fun s'' => .nx (wipeE s'' kill)) m) else .nx env') De at z'
    rw [← hl] at z'
    refine qc σ' H' O' env' _ E'.toEnvR (PostO.run z' E' fun b v H1 _ s r z1 => ?_)
    obtain rfl : v = b := r
    rw [hl] at z1
    cases v with
    | false => exact z1 σ' H1 O' hl (E'.mono s)
    | true =>
      rw [if_pos rfl] at z1 ⊢
      refine ⟨fun σ2 H2 => σ2.length = σ.length ∧ ∃ O2 env2, EnvS own B O0 H2 O2 env2 σ2 ∧ PostO own W G.cA B O0 σ.length (whileD fc (fun s => andO (fb s) fun s'' => .nx (wipeE s'' kill)) m env2) De, fun σ2 H2 hN => ⟨m, Nat.lt_succ_self m, hN⟩, qb B O0 σ' H1 O' env' _ (E'.mono s) ?_⟩
      rw [hl]
      cases ef : fb env' with
      | nx s'' =>
        rw [ef] at z1
        intro σ4 H4 O4 hl4 E4
        obtain ⟨O5, E5⟩ := (E4.wipe kill).fit (own' := own) fun i hi => by
          rcases h1 i hi with h | h
          · exact .inl h
          · exact .inr (wipe_none h)
        exact ⟨hl4, O5, _, E5, z1⟩
      | ret d => rw [ef] at z1; exact z1
      | ex c => rw [ef] at z1; exact z1
      | bad => rw [ef] at z1; exact z1.elim
theorem js_raise {s : String} {c : Nat} {x m : Str} {j : Nat} {p p2 p3 pos : Pos} (hx : ExcOk G s c) (hg : gl M s x = true) (hd : (x == ("__debug__" : Str)) = false) : JS1 G M k own own' (.Raise (some (.Call (.Name x p) [.Constant (.str m) j p2] [] p3)) none pos) (fun _ => .ex c) := fun X W gd => by
  obtain ⟨Bn, nid, iid, bm, h1, h2, h3, h4, h5, h6⟩ := hx
  obtain ⟨rfl, hgl⟩ := gl_of gd.toGood hg
  refine ⟨_, ps_raise gd.calm gd.takes (pmk_own h1 (by rw [gd.K]; exact h2) (by rw [gd.mg]; exact h3) (by rw [gd.K]; exact h4) (raises_own (by rw [gd.K]; exact h5) (by rw [gd.K]; exact h6)) hgl hd), fun B O0 σ H O env De E z => ?_⟩
  exact z σ H rfl E.base
end
end SF

namespace SF
open PySem PySem.Spec PyProof.Rows L2
variable [KS]
/-! ### the matcher of statements -/
inductive TgS where
  | l (sts : List Stmt) | s (st : Stmt)
def lcMatch (M : MC) (own : List Nat) : E → Expr → Bool
  | .lc vs t it c e, .ListComp elt [⟨tgt, iter, ifs, 0⟩] scope _ => (blkB M scope (ownN M vs) && tgB (M.blk scope) t tgt && (t.slots.all fun i => vs.contains i && !own.contains i) && foldOk iter) &&
        (mE it M own .bor (.it tgt iter) && ((match ifs with
          | [] => isTrueC c
          | [x] => mE c (M.blk scope) own .test (.e x)
          | _ => false) && mE e (M.blk scope) own .val (.e elt)))
  | _, _ => false
/-- an expression that makes a new list -/
def mF (M : MC) (own : List Nat) : E → Expr → Bool
  | .lst es, .List xs _ => decide (xs.length ≤ 1000) && mE es M own .val (.es xs)
  | .op1 .listOf a, x => (match call1 M "list" x with
    | some y => mE a M own .bor (.e y)
    | none => false)
  | .op2 .mul a b, x => (match binV .Mult x with
    | some (y, z) => mE a M own .bor (.e y) && mE b M own .bor (.e z)
    | none => false)
  | _, _ => false
def isNoneC : E → Bool
  | .cst .none => true
  | _ => false
def ownVar (M : MC) (own : List Nat) : E → Expr → Bool
  | .var i, .Name x _ => nmB M i x && own.contains i
  | _, _ => false
def onlyIf {α : Type} (b : Bool) (a : α) : Option α := if b = true then some a else none
def mS : S → MC → List Nat → TgS → Option (List Nat)
  | .skip => fun M own tg => match tg with
    | .l [] => some own
    | _ => none
  | .seq a b => fun M own tg => match tg with
    | .l (st :: r) => (match mS a M own (.s st) with
      | some o => mS b M o (.l r)
      | none => none)
    | _ => none
  | .frz is b => fun M own tg => match tg with
    | .l sts => mS b M (own.filter fun j => decide (j ∉ is)) (.l sts)
    | _ => none
  | .set i e => fun M own tg => match tg with
    | .s (.Assign [.Name x _] v _) => onlyIf (storeB M i x && ((notLc v && mE e M own .val (.e v)) || lcMatch M own e v)) (own.filter fun j => decide (j ≠ i))
    | _ => none
  | .setO i e => fun M own tg => match tg with
    | .s (.Assign [.Name x _] v _) => onlyIf (storeB M i x && ((notLc v && mF M own e v) || lcMatch M own e v)) (i :: own.filter fun j => decide (j ≠ i))
    | _ => none
  | .setT is e => fun M own tg => match tg with
    | .s (.Assign [.Tuple es _ _] v _) => onlyIf (storesB M is es && tupTgt v && mE e M own .val (.e v)) (own.filter fun j => decide (j ∉ is))
    | _ => none
  | .app i e => fun M own tg => match tg with
    | .s (.Expr (.Call (.Attribute (.Name x _) m ap) [v] [] cp) _) => onlyIf (decide (m = Str.ofString "append") && nmB M i x && own.contains i && notStar v && (ap.endLine == cp.line) && mE e M own .val (.e v)) own
    | _ => none
  | .ins i a b => fun M own tg => match tg with
    | .s (.Expr (.Call (.Attribute (.Name x _) m ap) [v, w] [] cp) _) => onlyIf (decide (m = Str.ofString "insert") && nmB M i x && own.contains i && notStar v && notStar w && (ap.endLine == cp.line) && mE a M own .bor (.e v) && mE b M own .val (.e w)) own
    | _ => none
  | .ext i e => fun M own tg => match tg with
    | .s (.Expr (.Call (.Attribute (.Name x _) m ap) [v] [] cp) _) => onlyIf (decide (m = Str.ofString "extend") && nmB M i x && own.contains i && notStar v && (ap.endLine == cp.line) && mE e M own .bor (.e v)) own
    | _ => none
  | .put i a b => fun M own tg => match tg with
    | .s (.Assign [.Subscript (.Name x _) v _] w _) => onlyIf (nmB M i x && own.contains i && ixOk v && notLc w && mE a M own .bor (.e v) && mE b M own .val (.e w)) own
    | _ => none
  | .ifS c a b => fun M own tg => match tg with
    | .s (.If cc p q _) => if mE c M own .test (.e cc) = true then (match mS a M own (.l p), mS b M own (.l q) with
      | some o1, some o2 => some (o1.filter fun j => decide (j ∈ o2))
      | _, _ => none) else none
    | _ => none
  | .forS kill t it body => fun M own tg => match tg with
    | .s (.For tgt iter bd [] _) => if (tgB M t tgt && (t.slots.all fun i => !own.contains i) && foldOk iter && mE it M own .val (.it tgt iter)) = true then (match mS body M own (.l bd) with
      | some o1 => onlyIf (own.all fun i => o1.contains i || kill.contains i) own
      | none => none) else none
    | _ => none
  | .whileS n kill c body => fun M own tg => match tg with
    | .s (.While cc bd [] _) => if mE c M own .test (.e cc) = true then (match mS body M own (.l bd) with
      | some o1 => onlyIf (own.all fun i => o1.contains i || kill.contains i) own
      | none => none) else none
    | _ => none
  | .ret e => fun M own tg => match tg with
    | .s (.Return (some v) _) => onlyIf (ownVar M own e v || mE e M own .val (.e v)) own
    | .s (.Return none _) => onlyIf (isNoneC e) own
    | _ => none
  | .raise s c => fun M own tg => match tg with
    | .s (.Raise (some (.Call (.Name x _) [.Constant (.str _) _ _] [] _)) none _) => onlyIf (gl M s x && ndb x) own
    | _ => none
  | .exp e => fun M own tg => match tg with
    | .s (.Expr v _) => onlyIf (notLc v && mE e M own .val (.e v)) own
    | _ => none
def needS : S → List Need
  | .skip => []
  | .seq a b => needS a ++ needS b
  | .frz _ b => needS b
  | .set _ e => needE e
  | .setO _ e => needE e
  | .setT _ e => needE e
  | .app _ e => needE e
  | .ins _ a b => needE a ++ needE b
  | .ext _ e => needE e
  | .put _ a b => needE a ++ needE b
  | .ifS c a b => needE c ++ (needS a ++ needS b)
  | .forS _ _ it b => needE it ++ needS b
  | .whileS _ _ c b => needE c ++ needS b
  | .ret e => needE e
  | .raise s c => [.exc s c]
  | .exp e => needE e
def SndS (G : Gx) (k : Nat) (M : MC) (own own' : List Nat) (f : Env → Out) : TgS → Prop
  | .l sts => JSs G M k own own' sts f
  | .s st => JS1 G M k own own' st f
theorem onlyIf_some {α : Type} {b : Bool} {a c : α} (h : onlyIf b a = some c) : b = true ∧ a = c := by
  unfold onlyIf at h
  split at h
  · rename_i hb
    cases h
    exact ⟨hb, rfl⟩
  · cases h
theorem lcMatch_ok {G : Gx} {k : Nat} {M : MC} {own : List Nat} {e : E} {v : Expr} (h : lcMatch M own e v = true) (nd : ∀ n ∈ needE e, NeedOk G k n) : ∃ elt tg iter ifs scope pos t vs fit fc fe, v = .ListComp elt [⟨tg, iter, ifs, 0⟩] scope pos ∧ LcOk G M k own false elt tg iter ifs scope t vs fit fc fe ∧
    ∀ s, den e s = (do let xs ← fit s; let ys ← lcD (lcF t vs fc fe s) xs; .ok (.list ys)) := by
  unfold lcMatch at h
  split at h
  · rename_i vs t it c e elt tgt iter ifs scope pos
    simp only [Bool.and_eq_true] at h
    obtain ⟨⟨⟨⟨h2, h3⟩, h4⟩, h5⟩, h6, h7, h8⟩ := h
    have ji := sound_e it M own .bor (.it tgt iter) h6 (needs_l nd) false rfl
    have je := sound_e e (M.blk scope) own .val (.e elt) h8 (needs_r (needs_r nd))
    have jc : IfOk G (M.blk scope) k own ifs (fun s => do let b ← den c s; truthy b) := by
      split at h7
      · refine .inl ⟨rfl, fun s => ?_⟩
        unfold isTrueC at h7
        split at h7
        · rfl
        · cases h7
      · rename_i x
        exact .inr ⟨x, rfl, sound_e c (M.blk scope) own .test (.e x) h7 (needs_l (needs_r nd))⟩
      · cases h7
    refine ⟨_, _, _, _, _, _, _, _, _, _, _, rfl, ⟨ji, h2, h3, fun i hi => ?_, jc, je, h5⟩, fun s => rfl⟩
    have := (List.all_eq_true.mp h4) i hi
    simpa using this
  · cases h
theorem JSet.congr {G : Gx} {M : MC} {k i : Nat} {own : List Nat} {st : Stmt} {f g : Env → R D} (h : JSet G M k own i st f) (e : ∀ s, f s = g s) : JSet G M k own i st g := by
  rw [← (funext e : f = g)]
  exact h
theorem JSetF.congr {G : Gx} {M : MC} {k i : Nat} {own : List Nat} {st : Stmt} {f g : Env → R D} (h : JSetF G M k own i st f) (e : ∀ s, f s = g s) : JSetF G M k own i st g := by
  rw [← (funext e : f = g)]
  exact h
theorem mF_ok {G : Gx} {k : Nat} {M : MC} {own : List Nat} {e : E} {v : Expr} (h : mF M own e v = true) (nd : ∀ n ∈ needE e, NeedOk G k n) : JF G M k own v (den e) := by
  unfold mF at h
  split at h
  · rename_i es xs pos
    rw [Bool.and_eq_true, decide_eq_true_eq] at h
    obtain ⟨j1, j2⟩ := sound_e es M own .val (.es xs) h.2 nd
    exact jf_lst j1 h.1 j2
  · rename_i a
    split at h
    · rename_i y e
      exact jf_listOf e (sound_e a M own .bor (.e y) h nd)
    · cases h
  · rename_i a b
    split at h
    · rename_i y z e
      rw [Bool.and_eq_true] at h
      exact jf_mul e (sound_e a M own .bor (.e y) h.1 (needs_l nd)) (sound_e b M own .bor (.e z) h.2 (needs_r nd))
    · cases h
  · cases h
theorem sound_s {G : Gx} {k : Nat} : ∀ (s : S) (M : MC) (own own' : List Nat) (tg : TgS), mS s M own tg = some own' → (∀ n ∈ needS s, NeedOk G k n) → SndS G k M own own' (denS s) tg := by
  intro s
  induction s with
  | skip =>
    intro M own own' tg h _
    unfold mS at h
    split at h
    · cases h; exact js_nil
    · cases h
  | seq a b iha ihb =>
    intro M own own' tg h nd
    unfold mS at h
    split at h
    · split at h
      · rename_i o e
        exact js_cons (iha M own o _ e (needs_l nd)) (ihb M o own' _ h (needs_r nd))
      · cases h
    · cases h
  | frz is b ih =>
    intro M own own' tg h nd
    unfold mS at h
    split at h
    · exact js_frz (ih M _ own' _ h nd) fun i hi => (List.mem_filter.mp hi).1
    · cases h
  | set i e =>
    intro M own own' tg h nd
    unfold mS at h
    split at h
    · rename_i x p v pos
      replace h := onlyIf_some h
      obtain ⟨h, rfl⟩ := h
      rw [Bool.and_eq_true, Bool.or_eq_true, Bool.and_eq_true] at h
      obtain ⟨h0, h | h⟩ := h
      · exact js_set (jset_plain h0 h.1 (sound_e e M own .val (.e v) h.2 nd))
      · obtain ⟨elt, tg, iter, ifs, scope, pos', t, vs, fit, fc, fe, rfl, L, hd⟩ := lcMatch_ok h nd
        exact js_set ((jset_lc L h0).congr fun s => (hd s).symm)
    · cases h
  | setO i e =>
    intro M own own' tg h nd
    unfold mS at h
    split at h
    · rename_i x p v pos
      replace h := onlyIf_some h
      obtain ⟨h, rfl⟩ := h
      rw [Bool.and_eq_true, Bool.or_eq_true, Bool.and_eq_true] at h
      obtain ⟨h0, h | h⟩ := h
      · exact js_setO (jsetF_plain h0 h.1 (mF_ok h.2 nd))
      · obtain ⟨elt, tg, iter, ifs, scope, pos', t, vs, fit, fc, fe, rfl, L, hd⟩ := lcMatch_ok h nd
        exact js_setO ((jsetF_lc L h0).congr fun s => (hd s).symm)
    · cases h
  | setT is e =>
    intro M own own' tg h nd
    unfold mS at h
    split at h
    · rename_i es kk p v pos
      replace h := onlyIf_some h
      obtain ⟨h, rfl⟩ := h
      simp only [Bool.and_eq_true] at h
      exact js_setT h.1.1 h.1.2 (sound_e e M own .val (.e v) h.2 nd)
    · cases h
  | app i e =>
    intro M own own' tg h nd
    unfold mS at h
    split at h
    · rename_i x p1 m ap v cp pos
      replace h := onlyIf_some h
      obtain ⟨h, rfl⟩ := h
      simp only [Bool.and_eq_true, decide_eq_true_eq] at h
      obtain ⟨⟨⟨⟨⟨rfl, h1⟩, h2⟩, h3⟩, h4⟩, h5⟩ := h
      exact js_app h1 (by simpa using h2) h3 h4 (sound_e e M own .val (.e v) h5 nd)
    · cases h
  | ins i a b =>
    intro M own own' tg h nd
    unfold mS at h
    split at h
    · rename_i x p1 m ap v w cp pos
      replace h := onlyIf_some h
      obtain ⟨h, rfl⟩ := h
      simp only [Bool.and_eq_true, decide_eq_true_eq] at h
      obtain ⟨⟨⟨⟨⟨⟨⟨rfl, h1⟩, h2⟩, h3⟩, h4⟩, h5⟩, h6⟩, h7⟩ := h
      exact js_ins h1 (by simpa using h2) h3 h4 h5 (sound_e a M own .bor (.e v) h6 (needs_l nd)) (sound_e b M own .val (.e w) h7 (needs_r nd))
    · cases h
  | ext i e =>
    intro M own own' tg h nd
    unfold mS at h
    split at h
    · rename_i x p1 m ap v cp pos
      replace h := onlyIf_some h
      obtain ⟨h, rfl⟩ := h
      simp only [Bool.and_eq_true, decide_eq_true_eq] at h
      obtain ⟨⟨⟨⟨⟨rfl, h1⟩, h2⟩, h3⟩, h4⟩, h5⟩ := h
      exact js_ext h1 (by simpa using h2) h3 h4 (sound_e e M own .bor (.e v) h5 nd)
    · cases h
  | put i a b =>
    intro M own own' tg h nd
    unfold mS at h
    split at h
    · rename_i x p1 v sp w pos
      replace h := onlyIf_some h
      obtain ⟨h, rfl⟩ := h
      simp only [Bool.and_eq_true] at h
      obtain ⟨⟨⟨⟨⟨h1, h2⟩, h3⟩, h4⟩, h5⟩, h6⟩ := h
      exact js_put h1 (by simpa using h2) h3 h4 (sound_e a M own .bor (.e v) h5 (needs_l nd)) (sound_e b M own .val (.e w) h6 (needs_r nd))
    · cases h
  | ifS c a b iha ihb =>
    intro M own own' tg h nd
    unfold mS at h
    split at h
    · rename_i cc p q pos
      split at h
      · rename_i hc
        split at h
        · rename_i o1 o2 e1 e2
          cases h
          exact js_if (sound_e c M own .test (.e cc) hc (needs_l nd)) (iha M own o1 _ e1 (needs_l (needs_r nd))) (ihb M own o2 _ e2 (needs_r (needs_r nd))) (fun i hi => (List.mem_filter.mp hi).1) fun i hi => of_decide_eq_true (List.mem_filter.mp hi).2
        · cases h
      · cases h
    · cases h
  | forS kill t it body ih =>
    intro M own own' tg h nd
    unfold mS at h
    split at h
    · rename_i tgt iter bd pos
      split at h
      · rename_i hc
        simp only [Bool.and_eq_true] at hc
        obtain ⟨⟨⟨h1, h2⟩, h3⟩, h4⟩ := hc
        split at h
        · rename_i o1 e1
          replace h := onlyIf_some h
          obtain ⟨h, rfl⟩ := h
          refine js_for (sound_e it M own .val (.it tgt iter) h4 (needs_l nd) true rfl) h1 (fun i hi => ?_) h3 (ih M own o1 _ e1 (needs_r nd)) fun i hi => ?_
          · have := (List.all_eq_true.mp h2) i hi
            simpa using this
          · have := (List.all_eq_true.mp h) i hi
            simpa using this
        · cases h
      · cases h
    · cases h
  | whileS n kill c body ih =>
    intro M own own' tg h nd
    unfold mS at h
    split at h
    · rename_i cc bd pos
      split at h
      · rename_i hc
        split at h
        · rename_i o1 e1
          replace h := onlyIf_some h
          obtain ⟨h, rfl⟩ := h
          refine js_while (sound_e c M own .test (.e cc) hc (needs_l nd)) (ih M own o1 _ e1 (needs_r nd)) fun i hi => ?_
          have := (List.all_eq_true.mp h) i hi
          simpa using this
        · cases h
      · cases h
    · cases h
  | ret e =>
    intro M own own' tg h nd
    unfold mS at h
    split at h
    · rename_i v pos
      replace h := onlyIf_some h
      obtain ⟨h, rfl⟩ := h
      rw [Bool.or_eq_true] at h
      rcases h with h | h
      · unfold ownVar at h
        split at h
        · rename_i i x p
          rw [Bool.and_eq_true] at h
          exact js_retO h.1 (by simpa using h.2)
        · cases h
      · exact js_ret (sound_e e M own .val (.e v) h nd)
    · replace h := onlyIf_some h
      obtain ⟨h, rfl⟩ := h
      unfold isNoneC at h
      split at h
      · exact js_retN
      · cases h
    · cases h
  | raise s c =>
    intro M own own' tg h nd
    unfold mS at h
    split at h
    · replace h := onlyIf_some h
      obtain ⟨h, rfl⟩ := h
      rw [Bool.and_eq_true] at h
      exact js_raise (nd _ List.mem_cons_self) h.1 (by simpa [ndb] using h.2)
    · cases h
  | exp e =>
    intro M own own' tg h nd
    unfold mS at h
    split at h
    · rename_i v pos
      replace h := onlyIf_some h
      obtain ⟨h, rfl⟩ := h
      rw [Bool.and_eq_true] at h
      exact js_exp h.1 (sound_e e M own .val (.e v) h.2 nd)
    · cases h
end SF

namespace SF
open PySem PySem.Spec PyProof.Rows L2
variable [KS]
/-! ### a def of the text -/
theorem getD_start {ds : List D} {n i : Nat} {d : D} (h : (ds.map some ++ List.replicate n none).getD i none = some d) : ds[i]? = some d := by
  rw [List.getD_eq_getElem?_getD] at h
  by_cases hi : i < ds.length
  · rw [List.getElem?_append_left (by simpa using hi), List.getElem?_map] at h
    rw [List.getElem?_eq_getElem hi] at h ⊢
    exact h
  · rw [List.getElem?_append_right (by simpa using hi), List.getElem?_replicate] at h
    split at h <;> cases h
theorem env_start {N : List Str} {H : Hp} {O : List Addr} {vs : List V} {ds : List D} (ok : OkO H O) (r : RpA (hid H O) vs ds) (hl : ds.length ≤ N.length) : EnvS [] H O H O (ds.map some ++ List.replicate (N.length - ds.length) none) (L2.start N vs) where
  free := fun i d _ h => by
    have h1 := getD_start h
    obtain ⟨v, h2, h3⟩ := r.get h1
    refine ⟨v, ?_, h3⟩
    have hi : i < vs.length := (List.getElem?_eq_some_iff.mp h2).1
    unfold L2.start
    rw [List.getElem?_append_left (by simpa using hi), List.getElem?_map, h2]
    rfl
  held := fun i d h => by cases h
  ok := ok
  len := by
    unfold L2.start
    rw [List.length_append, List.length_append, List.length_map, List.length_map, List.length_replicate, List.length_replicate, r.length]
  base := Same.refl _
  sub := fun _ h => h
  out := fun _ h => .inl h
  fresh := fun i d a h => by cases h
  dist := fun i j d e a h => by cases h
theorem fn_sem {G : Gx} {k : Nat} {x qual : Str} {st : Stmt} {f : Addr} {fd : FuncData} {N ps : List Str} {b : S} (F : Fun G.K x qual st f fd) (Sc : FnScope N ps (defScope st)) (hm : (mS b ⟨N, (defScope st).names, fun _ => true⟩ [] (.l (defBody st))).isSome = true) (hl : ps.length ≤ N.length)
    (nd : ∀ n ∈ needS b, NeedOk G k n) (blt : ∀ x ∈ bnames, G.mg (Str.ofString x) = none) : FnOk G.P G.w G.K G.mg G.base (L2.CX G.P G.w) (k + 1) f fd ps (spOf G.cA (fnD ps.length N.length b)) := by
  obtain ⟨oc, od, kV, doc, pm, an, cdv, ct, osl, rfl, lk, hcd⟩ := F.ex
  refine fn_of lk hcd Sc (fun vs H Q E h => ?_) fun A outer s H vs Q E hr hsp => ?_
  · obtain ⟨O, ds, ok, r, h⟩ := h
    unfold fnD at h
    split at h
    · rename_i c
      split at c
      · rename_i e
        rw [r.length, e]
      · cases c
    · rename_i c
      split at c
      · rename_i e
        rw [r.length, e]
      · cases c
    · exact h.elim
  · obtain ⟨O, ds, ok, r, h⟩ := hsp
    obtain ⟨own', hm⟩ := Option.isSome_iff_exists.mp hm
    have js := sound_s (G := G) (k := k) b _ _ _ _ hm nd
    have gd : GoodS G ⟨N, (defScope st).names, fun _ => true⟩ k (fun cls d _ H => E cls d H) (cxOf (L2.CX G.P G.w) G.P G.w G.K G.mg G.base N qual (defScope st) f cdv A outer s H E) :=
      { prog := rfl, w := rfl, K := rfl, mg := rfl, base := rfl, N := rfl, nd := Sc.nd, kind := Sc.kind, nm := rfl, fn := rfl, calm := rfl, room := hr, takes := takes_of rfl rfl rfl rfl, blt := blt, passes := passes_of rfl }
    obtain ⟨t, p, q⟩ := js _ _ gd
    refine ⟨t, p, ?_⟩
    by_cases e : ds.length = ps.length
    · refine q H O (L2.start N vs) H O (ds.map some ++ List.replicate (N.length - ds.length) none) _ (env_start ok r (by rw [e]; exact hl)) ?_
      unfold fnD at h
      rw [if_pos e] at h
      rw [e]
      cases ed : denS b (ds.map some ++ List.replicate (N.length - ps.length) none) with
      | nx env => rw [ed] at h; exact fun σ H' O' _ E' => h _ H' E'.base .non
      | ret d => rw [ed] at h; exact h
      | ex c => rw [ed] at h; exact fun σ H' _ s => h H' s
      | bad => rw [ed] at h; exact h
    · unfold fnD at h
      rw [if_neg e] at h
      exact h.elim
section
variable [KS] {H : Hp}
/-! ### the script's cells -/
def cellD : Fn := fun ds => match ds with
  | [.dict [(.none, .list xs)], .int k] => (match intsD xs with
    | .ok ns => if ns.length ≤ 1000 then .ok (.int (if ns = [] then 7 * k else ns.getD (k % (ns.length : Int)).toNat 0 + 6553 * (k / (ns.length : Int)))) else .bad
    | _ => .bad)
  | _ => .bad
def cellM (M : MC) : List Stmt → Bool
  | [.If (.Compare (.Name x1 _) [.Eq] [.List [] _] _) [.Return (some (.BinOp (.Constant (.int 7) _ _) .Mult (.Name x2 _) _)) _] [] _,
     .Return (some (.BinOp (.Subscript (.Name x3 _) (.BinOp (.Name x4 _) .Mod (.Call (.Name f1 _) [.Name x5 _] [] _) _) _) .Add (.BinOp (.Constant (.int 6553) _ _) .Mult (.BinOp (.Name x6 _) .FloorDiv (.Call (.Name f2 _) [.Name x7 _] [] _) _) _) _)) _] =>
      nmB M 0 x1 && nmB M 1 x2 && nmB M 0 x3 && nmB M 1 x4 && nmB M 0 x5 && nmB M 1 x6 && nmB M 0 x7 && gl M "len" f1 && gl M "len" f2
  | _ => false
def tCell0 (K : PySem.W.Frag) : TS := fun De σ H => ∃ (a : Addr) (ns : List Int) (k : Int), σ[0]? = some (some (.ref a)) ∧ σ[1]? = some (some (.int k)) ∧ SqL K H a (ns.map V.int) ∧ ns.length ≤ 1000 ∧
  ∀ H', Same H H' → De.rt (.int (if ns = [] then 7 * k else ns.getD (k % (ns.length : Int)).toNat 0 + 6553 * (k / (ns.length : Int)))) H'
theorem PSs.weak {X : Cx} {sts : List Stmt} {t t' : TS} (h : PSs X sts t) (w : ∀ De σ H, t' De σ H → t De σ H) : PSs X sts t' := ⟨fun pins s σ H De I q => h.run pins s σ H De I (w De σ H q)⟩
theorem len1 {G : Gx} {M : MC} {k : Nat} {W : WX} {X : Cx} (g : Good G M k W X) (h8 : gl M "len" (Str.ofString "len") = true) {p p' pos : Pos} {x : Str} {i : Nat} (hx : nmB M i x = true) : PE X (.Call (.Name (Str.ofString "len") p) [.Name x p'] [] pos) (tCB (fun xs H Q => ∃ p ys, xs = [V.ref p] ∧ (SqL X.K H p ys ∨ SqT X.K H p ys) ∧ Q (.int ys.length) H) (tCons (tVar i) tNil)) :=
  pe_callB (call_len_seq (X := X)) (gl_of g h8).2 (blt_in g) PySem.boot_len (pa_cons (pv_of g hx) pa_nil) (by decide) (by decide) rfl rfl
theorem dpAll_ints {K : PySem.W.Frag} : ∀ ns : List Int, DpAll K H (ns.map V.int) (ns.map .int)
  | [] => .nil
  | n :: ns => .cons (.int n) (dpAll_ints ns)
theorem lay_ints : ∀ ns : List Int, PyData.canLayAll0 (ns.map .int) = true
  | [] => rfl
  | n :: ns => by
    show (PyData.canLay0 (.int n) && PyData.canLayAll0 (ns.map .int)) = true
    rw [lay_ints ns]
    rfl
theorem depth_ints : ∀ ns : List Int, PyData.depthAll (ns.map .int) ≤ 1
  | [] => Nat.zero_le _
  | n :: ns => by
    have h := depth_ints ns
    simp only [List.map_cons, PyData.depthAll, PyData.depth]
    omega
theorem shaped_ints (ns : List Int) : SeqAt.shaped (.list (ns.map .int)) = true := by
  unfold SeqAt.shaped
  have h := depth_ints ns
  rw [Bool.and_eq_true, decide_eq_true_eq]
  refine ⟨by simpa [PyData.canLay0] using lay_ints ns, ?_⟩
  simp only [PyData.depth]
  omega
theorem pss_cell {G : Gx} {M : MC} {k : Nat} {W : WX} {X : Cx} {sts : List Stmt} (g : Good G M k W X) (h : cellM M sts = true) : PSs X sts (tCell0 X.K) := by
  unfold cellM at h
  split at h
  · simp only [Bool.and_eq_true] at h
    obtain ⟨⟨⟨⟨⟨⟨⟨⟨h1, h2⟩, h3⟩, h4⟩, h5⟩, h6⟩, h7⟩, h8⟩, h9⟩ := h
    obtain ⟨rfl, h8⟩ := gl_name h8
    obtain ⟨rfl, h9⟩ := gl_name h9
    refine PSs.weak (pss_cons (ps_if (pt_cmpR (op_eqD g.room.units) (pv_of g h1) (pe_lst pa_nil) rfl) (pss_one (ps_ret (pe_op op_mul pe_int (pv_of g h2)))) pss_nil)
      (pss_one (ps_ret (pe_op op_add (pe_ix ix_list (pv_of g h3) (pe_op op_mod (pv_of g h4) (len1 g h8 h5)) (fun _ _ => rfl)) (pe_op op_mul pe_int (pe_op op_fdiv (pv_of g h6) (len1 g h8 h7))))))) fun De σ H hw => ?_
    obtain ⟨a, ns, kk, e0, e1, hS, hz, q⟩ := hw
    refine ⟨_, e0, Nat.zero_le _, fun p hp => ?_⟩
    have s1 : Same H (upd H p (.lst [])) := same_upd hp
    have hS1 := s1.seq hS
    refine ⟨.list (ns.map .int), .list [], .lst hS1 (dpAll_ints ns), .lst (sq_l upd_same) .nil, shaped_ints ns, rfl, _, rfl, ?_⟩
    cases ns with
    | nil =>
      refine ⟨_, e1, 7, kk, rfl, rfl, ?_, q _ s1⟩
      exact .inl ⟨by decide, by decide⟩
    | cons n ns =>
      have hb : PyData.eqv (.list ((n :: ns).map .int)) (.list []) = false := rfl
      rw [hb, if_neg Bool.false_ne_true]
      have hl : ((n :: ns).map V.int).length = (n :: ns).length := by rw [List.length_map]
      have hpos : (0 : Int) < (((n :: ns).map V.int).length : Nat) := by rw [hl]; simp
      have hp' : (0 : Int) < ((n :: ns).length : Nat) := by simp
      have hm0 := Int.emod_nonneg kk (show (((n :: ns).length : Nat) : Int) ≠ 0 by omega)
      have hm1 := Int.emod_lt_of_pos kk hp'
      have hat : atI ((n :: ns).map V.int) (kk % (((n :: ns).map V.int).length : Nat)) = some (.int ((n :: ns).getD (kk % (((n :: ns).length : Nat) : Int)).toNat 0)) := by
        rw [hl]
        unfold atI ixN
        rw [if_pos hm0, hl, if_pos hm1]
        show ((n :: ns).map V.int)[(kk % (((n :: ns).length : Nat) : Int)).toNat]? = _
        have hlt : (kk % (((n :: ns).length : Nat) : Int)).toNat < (n :: ns).length := by omega
        rw [List.getElem?_map, List.getElem?_eq_getElem hlt, List.getD_eq_getElem?_getD, List.getElem?_eq_getElem hlt]
        rfl
      refine ⟨_, e0, _, e1, _, e0, a, _, rfl, .inl hS1, kk, _, rfl, rfl, hpos, a, _, _, _, rfl, rfl, hS1, hat, ?_⟩
      have hsm : (((n :: ns).map V.int).length : Int) < 1073741824 := by rw [hl]; omega
      refine ⟨_, e1, _, e0, a, _, rfl, .inl hS1, kk, _, rfl, rfl, ⟨hpos, hsm⟩, 6553, _, rfl, rfl, .inl ⟨by decide, by decide⟩, _, _, rfl, rfl, ?_⟩
      rw [if_neg (List.cons_ne_nil n ns)] at q
      rw [hl]
      exact q _ s1
  · cases h

theorem fn_cell {G : Gx} {k : Nat} {x qual : Str} {st : Stmt} {f : Addr} {fd : FuncData} {N ps : List Str} (F : Fun G.K x qual st f fd) (Sc : FnScope N ps (defScope st)) (hp : ps.length = 2) (hm : cellM ⟨N, (defScope st).names, fun _ => true⟩ (defBody st) = true)
    (blt : ∀ x ∈ bnames, G.mg (Str.ofString x) = none) (hK : ∀ a ns, KS.at_ a ns → ∀ H, SqL G.K H a (ns.map V.int)) : FnOk G.P G.w G.K G.mg G.base (L2.CX G.P G.w) (k + 1) f fd ps (spOf G.cA cellD) := by
  obtain ⟨oc, od, kV, doc, pm, an, cdv, ct, osl, rfl, lk, hcd⟩ := F.ex
  have key : ∀ {vs : List V} {H : Hp} {Q : VK} {E : XK}, spOf G.cA cellD vs H Q E → ∃ (a : Addr) (ns : List Int) (k : Int), vs = [.ref a, .int k] ∧ SqL G.K H a (ns.map V.int) ∧ ns.length ≤ 1000 ∧
      ∀ H', Same H H' → Q (.int (if ns = [] then 7 * k else ns.getD (k % (ns.length : Int)).toNat 0 + 6553 * (k / (ns.length : Int)))) H' := fun {vs H Q E} h => by
    obtain ⟨O, ds, ok, r, h⟩ := h
    unfold cellD at h
    split at h
    · rename_i c
      split at c
      · rename_i xs kk
        split at c
        · rename_i ns e
          split at c
          · rename_i hle
            cases c
            cases r with
            | cons r1 r2 =>
              cases r2 with
              | cons r3 r4 =>
                cases r4
                cases r3
                have hn : ∀ {ms : List Int}, xs = ms.map PyData.int → ns = ms := fun {ms} em => by
                  have : intsD (ms.map PyData.int) = .ok ms := by
                    clear e em
                    induction ms with
                    | nil => rfl
                    | cons m ms ih => simp [intsD, ih]
                  rw [em, this] at e
                  cases e
                  rfl
                generalize hd : PyData.dict [(PyData.none, PyData.list xs)] = dd at r1
                cases r1 with
                | scr e1 =>
                  rename_i a o ms
                  injection hd with hd
                  injection hd with hd _
                  injection hd with _ hd
                  injection hd with hd
                  obtain rfl := hn hd
                  exact ⟨a, ns, kk, rfl, .inl (.inr ⟨o, (hid_some e1).2⟩), hle, fun H' s => h _ H' s (.int _)⟩
                | scrK e1 =>
                  rename_i a ms
                  injection hd with hd
                  injection hd with hd _
                  injection hd with _ hd
                  injection hd with hd
                  obtain rfl := hn hd
                  exact ⟨a, ns, kk, rfl, hK a ns e1 H, hle, fun H' s => h _ H' s (.int _)⟩
                | _ => cases hd
          · cases c
        · cases c
      · cases c
    · rename_i c
      split at c
      · split at c
        · split at c <;> cases c
        · cases c
      · cases c
    · exact h.elim
  refine fn_of lk hcd Sc (fun vs H Q E h => ?_) fun A outer s H vs Q E hr hsp => ?_
  · obtain ⟨a, ns, kk, rfl, _⟩ := key h
    rw [hp]
    rfl
  · obtain ⟨a, ns, kk, rfl, hS, hz, q⟩ := key hsp
    have gd : Good G ⟨N, (defScope st).names, fun _ => true⟩ k (fun cls d _ H => E cls d H) (cxOf (L2.CX G.P G.w) G.P G.w G.K G.mg G.base N qual (defScope st) f cdv A outer s H E) :=
      { prog := rfl, w := rfl, K := rfl, mg := rfl, base := rfl, N := rfl, nd := Sc.nd, kind := Sc.kind, nm := rfl, fn := rfl, calm := rfl, room := hr, takes := takes_of rfl rfl rfl rfl, blt := blt }
    refine ⟨_, pss_cell gd hm, a, ns, kk, rfl, rfl, hS, hz, fun H' s => q H' s⟩
end
end SF

/-! The ends: what a law's own text asks. -/
namespace SF
open PySem PySem.Spec PyProof.Rows L2
def AllN (C : Need → Prop) : List Need → Prop
  | [] => True
  | n :: r => C n ∧ AllN C r
theorem allN_of {C : Need → Prop} {l m : List Need} (e : l = m) (h : AllN C m) : ∀ n ∈ l, C n := by
  subst e
  induction l with
  | nil => intro n hn; cases hn
  | cons a r ih =>
    intro n hn
    rcases List.mem_cons.mp hn with rfl | hn
    · exact h.1
    · exact ih h.2 n hn
def AllS (C : String → Prop) : List String → Prop
  | [] => True
  | n :: r => C n ∧ AllS C r
theorem allS_of {C : String → Prop} : ∀ {l : List String}, AllS C l → ∀ n ∈ l, C n
  | [], _, n, hn => by cases hn
  | a :: r, h, n, hn => by
    rcases List.mem_cons.mp hn with rfl | hn
    · exact h.1
    · exact allS_of h.2 n hn
/-- the script as a datum -/
def scrD (ns : List Int) : D := .dict [(.none, .list (ns.map .int))]
/-- what the law promises -/
def spLaw (K : PySem.W.Frag) : Sp := fun vs H Q _ => ∃ (a : Addr) (ns : List Int), vs = [.ref a] ∧ SqL K H a (ns.map V.int) ∧ ns.length ≤ 63 ∧ Only H ∧ ∀ H', Q (.bl true) H'
@[reducible] def ksOf (K : PySem.W.Frag) : KS := ⟨fun a ns => ∀ H, SqL K H a (ns.map V.int)⟩
theorem ints_inj : ∀ {a b : List Int}, a.map V.int = b.map V.int → a = b
  | [], [], _ => rfl
  | [], _ :: _, h => by cases h
  | _ :: _, [], h => by cases h
  | x :: a, y :: b, h => by
    rw [List.map_cons, List.map_cons] at h
    injection h with h1 h2
    injection h1 with h1
    rw [h1, ints_inj h2]
theorem spLaw_imp {K : PySem.W.Frag} {cA : Nat → Addr} {g : Fn} (hg : ∀ ns : List Int, ns.length ≤ 63 → g [scrD ns] = .ok (.bool true)) (vs : List V) (H : Hp) (Q : VK) (E : XK) (h : spLaw K vs H Q E) : @spOf (ksOf K) cA g vs H Q E := by
  letI : KS := ksOf K
  obtain ⟨a, ns, rfl, hS, hl, hO, q⟩ := h
  refine ⟨[], [scrD ns], (fun a m => by cases m), RpA.one ?_, ?_⟩
  · have hid0 : hid H [] = H := by
      funext b
      unfold hid
      rw [if_neg (by simp)]
    rw [hid0]
    rcases hS with (hS | ⟨o, hS⟩) | hS
    · rcases hO a with e | ⟨o, xs, e⟩
      · rw [e] at hS; cases hS
      · rw [e] at hS; cases hS
    · exact .scr hS
    · exact .scrK fun H' => .inr hS
  · rw [hg ns hl]
    intro v H' _ r
    rw [r.boolE]
    exact q H'
theorem CallOk.mono [KS] {G : Gx} {j k : Nat} {s : String} {g : Fn} (h : CallOk G j s g) (hjk : j ≤ k) : CallOk G k s g := by
  obtain ⟨f, fd, ps, h1, h2, h3, F⟩ := h
  exact ⟨f, fd, ps, h1, h2, h3, F.mono hjk⟩
theorem constAt_int [KS] {G : Gx} {s : String} {i : Int} {t : Tok} (h : G.mg (Str.ofString s) = some (.int i t)) : ConstAt G s (.int i) :=
  ⟨_, .int i, h, ⟨t, rfl⟩, fun d e H => by cases e; exact .int i⟩
theorem hCX_law {P : Program} {w : World} {H : Hp} {s : Shared} {e : Value} {s' : Shared} (h : L2.CX P w [] H s (fun _ _ _ => False) e s') : False := by
  obtain ⟨_, _, _, _, _, _, _, _, _, _, _, _, h⟩ := h
  exact h
end SF

/-! Reckoning with meanings. -/
namespace SF
open PySem
section
variable (s : Env) (a b c e es : E) (i : Nat)
@[simp] theorem den_var : den (.var i) s = getV s i := rfl
@[simp] theorem den_cst (c : Const) : den (.cst c) s = cstD c := rfl
@[simp] theorem den_glob (x : String) (c : Const) : den (.glob x c) s = cstD c := rfl
@[simp] theorem den_op1 (o : Op1) : den (.op1 o a) s = (do let x ← den a s; op1D o x) := rfl
@[simp] theorem den_op2 (o : Op2) : den (.op2 o a b) s = (do let x ← den a s; let y ← den b s; op2D o x y) := rfl
@[simp] theorem den_op3 (o : Op3) : den (.op3 o a b c) s = (do let x ← den a s; let y ← den b s; let z ← den c s; op3D o x y z) := rfl
@[simp] theorem den_chain (o o' : Op2) : den (.chain o o' a b c) s = (do
    let x ← den a s
    let y ← den b s
    let k ← boolOf (op2D o x y)
    if k then (do let z ← den c s; op2D o' y z) else .ok (.bool false)) := rfl
@[simp] theorem den_and : den (.andE a b) s = (do let k ← boolOf (den a s); if k then den b s else .ok (.bool false)) := rfl
@[simp] theorem den_or : den (.orE a b) s = (do let k ← boolOf (den a s); if k then .ok (.bool true) else den b s) := rfl
@[simp] theorem den_one : den (.oneE a) s = den a s := rfl
@[simp] theorem den_not : den (.notE a) s = (do let k ← boolOf (den a s); .ok (.bool (!k))) := rfl
@[simp] theorem den_ite : den (.ite c a b) s = (do let x ← den c s; let k ← truthy x; if k then den a s else den b s) := rfl
@[simp] theorem den_tup : den (.tup es) s = (do let ds ← tupleOf (den es s); .ok (.tuple ds)) := rfl
@[simp] theorem den_lst : den (.lst es) s = (do let ds ← tupleOf (den es s); .ok (.list ds)) := rfl
@[simp] theorem den_nil : den .nil s = .ok (.tuple []) := rfl
@[simp] theorem den_cons : den (.cons e es) s = (do let x ← den e s; let ds ← tupleOf (den es s); .ok (.tuple (x :: ds))) := rfl
@[simp] theorem den_call (f : String) (g : Fn) : den (.call f g es) s = (do let ds ← tupleOf (den es s); g ds) := rfl
@[simp] theorem den_flat : den (.flat a) s = (do let d ← den a s; if noList d then .ok d else .bad) := rfl
@[simp] theorem den_slice : den (.slice a b c) s = (do let x ← den a s; let i ← intOf (den b s); let z ← den c s; sliceO x i z) := rfl
@[simp] theorem den_index : den (.index a b) s = (do let xs ← listOf (den a s); let y ← den b s; indexD xs y) := rfl
@[simp] theorem den_lc (vs : List Nat) (t : T) : den (.lc vs t a c e) s = (do
    let xs ← listOf (den a s)
    let ys ← lcD (lcF t vs (fun s => do let b ← den c s; truthy b) (den e) s) xs
    .ok (.list ys)) := rfl
@[simp] theorem den_itSeq : den (.itSeq a) s = (do let x ← den a s; let xs ← seqD x; .ok (.list xs)) := rfl
@[simp] theorem den_itEnum : den (.itEnum a) s = (do let x ← den a s; let xs ← seqD x; .ok (.list (enumD 0 xs))) := rfl
@[simp] theorem den_itZip : den (.itZip a b) s = (do let x ← den a s; let y ← den b s; let xs ← seqD x; let ys ← seqD y; .ok (.list (zipD xs ys))) := rfl
@[simp] theorem den_itRange : den (.itRange a) s = (do let x ← den a s; rngOne x) := rfl
@[simp] theorem den_itRange2 : den (.itRange2 a b) s = (do let x ← den a s; let y ← den b s; rngTwo x y) := rfl
@[simp] theorem rngOne_int (j : Int) : rngOne (.int j) = rngD 0 j := rfl
@[simp] theorem rngTwo_int (i j : Int) : rngTwo (.int i) (.int j) = rngD i j := rfl
@[simp] theorem getV0 (d : D) (s : Env) : getV (some d :: s) 0 = .ok d := rfl
@[simp] theorem getVs (x : Option D) (s : Env) : getV (x :: s) (i + 1) = getV s i := rfl
@[simp] theorem tupleOf_ok (ds : List D) : tupleOf (.ok (.tuple ds)) = .ok ds := rfl
@[simp] theorem listOf_ok (ds : List D) : listOf (.ok (.list ds)) = .ok ds := rfl
@[simp] theorem boolOf_ok (b : Bool) : boolOf (.ok (.bool b)) = .ok b := rfl
@[simp] theorem intOf_ok (b : Int) : intOf (.ok (.int b)) = .ok b := rfl
@[simp] theorem truthy_bool (b : Bool) : truthy (.bool b) = .ok b := rfl
@[simp] theorem seqD_list (ds : List D) : seqD (.list ds) = .ok ds := rfl
@[simp] theorem seqD_tuple (ds : List D) : seqD (.tuple ds) = .ok ds := rfl
@[simp] theorem cst_int (i : Int) : cstD (.int i) = .ok (.int i) := rfl
@[simp] theorem cst_bool (b : Bool) : cstD (.bool b) = .ok (.bool b) := rfl
@[simp] theorem cst_none : cstD .none = .ok .none := rfl
@[simp] theorem cst_str (x : Str) : cstD (.str x) = .ok (.str x) := rfl
@[simp] theorem denS_skip : denS .skip s = .nx s := rfl
@[simp] theorem denS_seq (a b : S) : denS (.seq a b) s = andO (denS a s) (denS b) := rfl
@[simp] theorem denS_frz (is : List Nat) (b : S) : denS (.frz is b) s = denS b s := rfl
@[simp] theorem denS_set : denS (.set i e) s = out (den e s) fun d => .nx (s.set i (some d)) := rfl
@[simp] theorem denS_setO : denS (.setO i e) s = out (listOf (den e s)) fun xs => .nx (s.set i (some (.list xs))) := rfl
@[simp] theorem denS_setT (is : List Nat) : denS (.setT is e) s = out (den e s) fun d => out (bindT (.tup is) d s) .nx := rfl
@[simp] theorem denS_if (a b : S) : denS (.ifS c a b) s = out (do let x ← den c s; truthy x) fun k => if k then denS a s else denS b s := rfl
@[simp] theorem denS_ret : denS (.ret e) s = out (den e s) .ret := rfl
@[simp] theorem denS_exp : denS (.exp e) s = out (den e s) fun _ => .nx s := rfl
@[simp] theorem denS_raise (x : String) (c : Nat) : denS (.raise x c) s = .ex c := rfl
@[simp] theorem out_ok {α : Type} (a : α) (f : α → Out) : out (.ok a) f = f a := rfl
@[simp] theorem andO_nx (f : Env → Out) : andO (.nx s) f = f s := rfl
@[simp] theorem andO_ret (d : D) (f : Env → Out) : andO (.ret d) f = .ret d := rfl
@[simp] theorem andO_ex (d : Nat) (f : Env → Out) : andO (.ex d) f = .ex d := rfl
end
section
variable (i j : Int)
@[simp] theorem op_addI : op2D .add (.int i) (.int j) = .ok (.int (i + j)) := rfl
@[simp] theorem op_subI : op2D .sub (.int i) (.int j) = .ok (.int (i - j)) := rfl
@[simp] theorem op_ltI : op2D .lt (.int i) (.int j) = .ok (.bool (decide (i < j))) := rfl
@[simp] theorem op_leI : op2D .le (.int i) (.int j) = .ok (.bool (decide (i ≤ j))) := rfl
@[simp] theorem op_gtI : op2D .gt (.int i) (.int j) = .ok (.bool (decide (j < i))) := rfl
@[simp] theorem op_geI : op2D .ge (.int i) (.int j) = .ok (.bool (decide (j ≤ i))) := rfl
@[simp] theorem op_eqI : op2D .eq (.int i) (.int j) = .ok (.bool (i == j)) := rfl
@[simp] theorem op_neI : op2D .ne (.int i) (.int j) = .ok (.bool (!(i == j))) := rfl
@[simp] theorem op_negI : op1D .neg (.int i) = .ok (.int (-i)) := rfl
theorem op_mulI (h : (-18446744073709551616 < i ∧ i < 18446744073709551616) ∨ (-18446744073709551616 < j ∧ j < 18446744073709551616)) : op2D .mul (.int i) (.int j) = .ok (.int (i * j)) := by
  have h' : (SF.small64 i || SF.small64 j) = true := by
    unfold SF.small64
    rcases h with h | h <;> simp [h]
  exact if_pos h'
@[simp] theorem op_mulR (h1 : -18446744073709551616 < j) (h2 : j < 18446744073709551616) : op2D .mul (.int i) (.int j) = .ok (.int (i * j)) := op_mulI i j (.inr ⟨h1, h2⟩)
theorem op_mulL (h1 : -18446744073709551616 < i) (h2 : i < 18446744073709551616) : op2D .mul (.int i) (.int j) = .ok (.int (i * j)) := op_mulI i j (.inl ⟨h1, h2⟩)
@[simp] theorem op_modI (h : 0 < j) : op2D .mod (.int i) (.int j) = .ok (.int (i % j)) := if_pos h
@[simp] theorem op_fdivI (h : 0 < j) (h2 : j < 1073741824) : op2D .fdiv (.int i) (.int j) = .ok (.int (i / j)) := by
  show (if (decide (0 < j) && decide (j < 1073741824)) = true then R.ok (PyData.int (i / j)) else .bad) = _
  rw [if_pos (by simp [h, h2])]
@[simp] theorem op_len_list (xs : List D) : op1D .len (.list xs) = .ok (.int xs.length) := rfl
@[simp] theorem op_len_tuple (xs : List D) : op1D .len (.tuple xs) = .ok (.int xs.length) := rfl
@[simp] theorem op_tuple_list (xs : List D) : op1D .tupleOf (.list xs) = .ok (.tuple xs) := rfl
@[simp] theorem op_idx_list (xs : List D) : op2D .idx (.list xs) (.int i) = idxL xs i := rfl
@[simp] theorem op_idx_tuple (xs : List D) : op2D .idx (.tuple xs) (.int i) = idxL xs i := rfl
theorem idxL_nat {xs : List D} {n : Nat} {d : D} (h : xs[n]? = some d) : idxL xs (n : Int) = .ok d := by
  unfold idxL placeD
  have hn : n < xs.length := (List.getElem?_eq_some_iff.mp h).1
  rw [if_pos (by omega), if_pos (by omega)]
  simp [h]
end
/-! ### draws -/
theorem ints_of (n : List Int) : intsD (n.map PyData.int) = .ok n := by
  induction n with
  | nil => rfl
  | cons a b ih => simp [intsD, ih]
def cellI (ns : List Int) (k : Int) : Int := if ns = [] then 7 * k else ns.getD (k % (ns.length : Int)).toNat 0 + 6553 * (k / (ns.length : Int))
theorem cell_eq (ns : List Int) (h : ns.length ≤ 63) (k : Int) : cellD [scrD ns, .int k] = .ok (.int (cellI ns k)) := by
  unfold cellD scrD
  dsimp only
  rw [ints_of]
  dsimp only
  rw [if_pos (by omega)]
  rfl
end SF
namespace SF
open PySem
@[simp] theorem idx1_0 (a : D) : idxL [a] 0 = .ok a := rfl
@[simp] theorem idx2_0 (a b : D) : idxL [a, b] 0 = .ok a := rfl
@[simp] theorem idx2_1 (a b : D) : idxL [a, b] 1 = .ok b := rfl
@[simp] theorem idx3_0 (a b c : D) : idxL [a, b, c] 0 = .ok a := rfl
@[simp] theorem idx3_1 (a b c : D) : idxL [a, b, c] 1 = .ok b := rfl
@[simp] theorem idx3_2 (a b c : D) : idxL [a, b, c] 2 = .ok c := rfl
@[simp] theorem bindT_name (i : Nat) (d : D) (s : Env) : bindT (.name i) d s = .ok (s.set i (some d)) := rfl
@[simp] theorem bindT_tup2 (i j : Nat) (a b : D) (s : Env) : bindT (.tup [i, j]) (.tuple [a, b]) s = .ok ((s.set i (some a)).set j (some b)) := rfl
@[simp] theorem bindT_tup3 (i j k : Nat) (a b c : D) (s : Env) : bindT (.tup [i, j, k]) (.tuple [a, b, c]) s = .ok (((s.set i (some a)).set j (some b)).set k (some c)) := rfl
@[simp] theorem wipeE_nil (s : Env) : wipeE s [] = s := rfl
@[simp] theorem wipeE_cons (s : Env) (k : Nat) (ks : List Nat) : wipeE s (k :: ks) = (wipeE s ks).set k none := rfl
end SF
namespace SF
open PySem
theorem denS_for (kill : List Nat) (t : T) (it : E) (body : S) (s : Env) : denS (.forS kill t it body) s = out (listOf (den it s)) fun xs => forD (fun x s => out (bindT t x s) fun s' => andO (denS body s') fun s'' => .nx (wipeE s'' kill)) xs (wipeE s kill) := rfl
@[simp] theorem denS_app (i : Nat) (e : E) (s : Env) : denS (.app i e) s = out (listAt s i) fun xs => out (den e s) fun d => if xs.length < 1000000 then .nx (s.set i (some (.list (xs ++ [d])))) else .bad := rfl
@[simp] theorem denS_ins (i : Nat) (a b : E) (s : Env) : denS (.ins i a b) s = out (listAt s i) fun xs => out (intOf (den a s)) fun k => out (den b s) fun d =>
      if xs.length < 1000000 then out (insertD xs k d) fun ys => .nx (s.set i (some (.list ys))) else .bad := rfl
@[simp] theorem denS_ext (i : Nat) (e : E) (s : Env) : denS (.ext i e) s = out (listAt s i) fun xs => out (listOf (den e s)) fun ys => if xs.length + ys.length ≤ 1000000 then .nx (s.set i (some (.list (xs ++ ys)))) else .bad := rfl
@[simp] theorem denS_put (i : Nat) (a b : E) (s : Env) : denS (.put i a b) s = out (den b s) fun d => out (listAt s i) fun xs => out (intOf (den a s)) fun k => match placeD xs.length k with
      | some j => .nx (s.set i (some (.list (xs.set j d))))
      | none => .bad := rfl
@[simp] theorem listAt0 (d : List D) (s : Env) : listAt (some (.list d) :: s) 0 = .ok d := rfl
@[simp] theorem listAts (x : Option D) (s : Env) (i : Nat) : listAt (x :: s) (i + 1) = listAt s i := rfl
theorem rep_one {α : Type} (x : α) (n : Nat) : repL [x] (n : Int) = List.replicate n x := by
  unfold repL
  rw [Int.toNat_natCast]
  induction n with
  | zero => rfl
  | succ n ih => rw [List.replicate_succ, List.flatten_cons, ih]; rfl
theorem op_rep_one (x : D) {n : Nat} (h : n ≤ 1000) : op2D .mul (.list [x]) (.int n) = .ok (.list (List.replicate n x)) := by
  have e : (if decide ((n : Int) ≤ 1000) && decide (-1000000 < (n : Int)) && decide (([x] : List D).length ≤ 1000) then R.ok (PyData.list (repL [x] (n : Int))) else .bad) = .ok (.list (List.replicate n x)) := by
    rw [if_pos (by simp; omega), rep_one]
  exact e
end SF
namespace SF
open PySem
/-- a turn of a loop -/
def turn (kill : List Nat) (t : T) (body : S) (x : D) (s : Env) : Out := out (bindT t x s) fun s' => andO (denS body s') fun s'' => .nx (wipeE s'' kill)
theorem denS_for_ok {kill : List Nat} {t : T} {it : E} {body : S} {s : Env} {xs : List D} (h : den it s = .ok (.list xs)) : denS (.forS kill t it body) s = forD (turn kill t body) xs (wipeE s kill) := by
  rw [denS_for, h]
  rfl
theorem den_range_ok {a : E} {s : Env} {n : Nat} (h : den a s = .ok (.int n)) (hr : rngD 0 (n : Int) = .ok (.list ((List.range n).map fun i : Nat => PyData.int (i : Int)))) : den (.itRange a) s = .ok (.list ((List.range n).map fun i : Nat => PyData.int (i : Int))) := by
  rw [den_itRange, h, ok_bind, rngOne_int, hr]
end SF
namespace SF
open PySem
theorem denS_while (n : Nat) (kill : List Nat) (c : E) (body : S) (s : Env) : denS (.whileS n kill c body) s = whileD (fun s => do let x ← den c s; truthy x) (fun s => andO (denS body s) fun s'' => .nx (wipeE s'' kill)) n (wipeE s kill) := rfl
theorem whileD_go {c : Env → R Bool} {f : Env → Out} {n : Nat} {s s' : Env} (hc : c s = .ok true) (hf : f s = .nx s') : whileD c f (n + 1) s = whileD c f n s' := by
  show out (c s) (fun k => if k then andO (f s) (whileD c f n) else .nx s) = _
  rw [hc, out_ok, if_pos rfl, hf]
  rfl
theorem whileD_stop {c : Env → R Bool} {f : Env → Out} {n : Nat} {s : Env} (hc : c s = .ok false) : whileD c f (n + 1) s = .nx s := by
  show out (c s) (fun k => if k then andO (f s) (whileD c f n) else .nx s) = _
  rw [hc, out_ok, if_neg Bool.false_ne_true]
end SF

/-! Typed meanings: what an expression, a statement of the small language means over plain Lean types. -/
namespace SF
open PySem
class Em (α : Type) where
  em : α → D
open Em (em)
structure Tp (α : Type) where
  l : List α
  deriving DecidableEq
structure T3 (α β γ : Type) where
  a : α
  b : β
  c : γ
  deriving DecidableEq
structure T4 (α β γ δ : Type) where
  a : α
  b : β
  c : γ
  e : δ
  deriving DecidableEq
inductive NoneV where | v
inductive NilL where | v
inductive NilT where | v
instance : Em D := ⟨id⟩
instance : Em Int := ⟨.int⟩
instance : Em Bool := ⟨.bool⟩
instance : Em String := ⟨fun x => .str (Str.ofString x)⟩
instance : Em NoneV := ⟨fun _ => .none⟩
instance : Em Unit := ⟨fun _ => .none⟩
instance : Em NilL := ⟨fun _ => .list []⟩
instance : Em NilT := ⟨fun _ => .tuple []⟩
section
variable {α β γ δ : Type} [Em α] [Em β] [Em γ] [Em δ]
instance : Em (List α) := ⟨fun l => .list (l.map em)⟩
instance : Em (Tp α) := ⟨fun t => .tuple (t.l.map em)⟩
instance : Em (α × β) := ⟨fun p => .tuple [em p.1, em p.2]⟩
instance : Em (T3 α β γ) := ⟨fun p => .tuple [em p.a, em p.b, em p.c]⟩
instance : Em (T4 α β γ δ) := ⟨fun p => .tuple [em p.a, em p.b, em p.c, em p.e]⟩
instance : Em (Option α) := ⟨fun o => match o with | none => .none | some a => em a⟩
@[simp] theorem em_D (d : D) : em d = d := rfl
theorem em_int (i : Int) : em i = PyData.int i := rfl
theorem em_bool (i : Bool) : em i = PyData.bool i := rfl
theorem em_list (l : List α) : em l = PyData.list (l.map em) := rfl
theorem em_tp (l : List α) : em (Tp.mk l) = PyData.tuple (l.map em) := rfl
theorem em_pair (p : α × β) : em p = PyData.tuple [em p.1, em p.2] := rfl
theorem em_t3 (p : T3 α β γ) : em p = PyData.tuple [em p.a, em p.b, em p.c] := rfl
end
/-- a guard that no reckoning opens -/
noncomputable def gd {α : Type} (c : Prop) (r : R α) : R α := @ite _ c (Classical.propDecidable c) r .bad
theorem gd_pos {α : Type} {c : Prop} {r : R α} (h : c) : gd c r = r := if_pos h
theorem gd_neg {α : Type} {c : Prop} {r : R α} (h : ¬ c) : gd c r = .bad := if_neg h
/-- a told answer and a typed one -/
def RefW {α X : Type} (e : α → X) (d : R X) (t : R α) : Prop := match t with
  | .ok a => d = .ok (e a)
  | .ex c => d = .ex c
  | .bad => True
abbrev Ref {α : Type} [Em α] (d : R D) (t : R α) : Prop := RefW em d t
section
variable {α β γ X Y Z : Type} {e : α → X} {e' : β → Y}
theorem RefW.bind {d : R X} {t : R α} {f : X → R Y} {g : α → R β} (h : RefW e d t) (hf : ∀ a, RefW e' (f (e a)) (g a)) : RefW e' (d >>= f) (t >>= g) := by
  cases t with
  | ok a => rw [show d = .ok (e a) from h]; exact hf a
  | ex c => rw [show d = .ex c from h]; exact rfl
  | bad => exact trivial
theorem RefW.map {d : R X} {t : R α} {f : X → Y} {g : α → β} (h : RefW e d t) (hf : ∀ a, f (e a) = e' (g a)) : RefW e' (d >>= fun x => .ok (f x)) (t >>= fun x => .ok (g x)) := h.bind fun a => by rw [hf a]; exact rfl
theorem RefW.mapL {d : R X} {t : R α} {f : X → R Y} {e'' : α → Y} (h : RefW e d t) (hf : ∀ a, f (e a) = .ok (e'' a)) : RefW e'' (d >>= f) t := by
  cases t with
  | ok a => rw [show d = .ok (e a) from h]; exact hf a
  | ex c => rw [show d = .ex c from h]; exact rfl
  | bad => exact trivial
theorem RefW.ok_of {d : R X} {a : α} (h : RefW e d (.ok a)) : d = .ok (e a) := h
end
/-- the same thing, as another type's -/
class Up (α β : Type) [Em α] [Em β] where
  up : α → β
  ok : ∀ a, em (up a) = em a
open Up (up)
section
variable {α β γ δ α' β' γ' : Type} [Em α] [Em β] [Em γ] [Em δ] [Em α'] [Em β'] [Em γ']
instance (priority := low) upD : Up α D := ⟨em, fun _ => rfl⟩
instance (priority := high) upRefl : Up α α := ⟨id, fun _ => rfl⟩
instance upSome : Up α (Option α) := ⟨some, fun _ => rfl⟩
instance upNone : Up NoneV (Option α) := ⟨fun _ => none, fun _ => rfl⟩
instance upNoneU : Up NoneV Unit := ⟨fun _ => (), fun _ => rfl⟩
instance upNilL : Up NilL (List α) := ⟨fun _ => [], fun _ => rfl⟩
instance upNilT : Up NilT (Tp α) := ⟨fun _ => ⟨[]⟩, fun _ => rfl⟩
instance upPair [Up α α'] [Up β β'] : Up (α × β) (α' × β') := ⟨fun p => (up p.1, up p.2), fun p => by simp only [em_pair, Up.ok]⟩
instance upT3 [Up α α'] [Up β β'] [Up γ γ'] : Up (T3 α β γ) (T3 α' β' γ') := ⟨fun p => ⟨up p.a, up p.b, up p.c⟩, fun p => by simp only [em_t3, Up.ok]⟩
instance (priority := low) upList [Up α α'] : Up (List α) (List α') := ⟨fun p => p.map up, fun p => by simp [em_list, Up.ok, List.map_map, Function.comp_def]⟩
instance (priority := low) upTp [Up α α'] : Up (Tp α) (Tp α') := ⟨fun p => ⟨p.l.map up⟩, fun p => by show PyData.tuple _ = PyData.tuple _; simp [Up.ok, List.map_map, Function.comp_def]⟩
instance upPairTp [Up α γ] [Up β γ] : Up (α × β) (Tp γ) := ⟨fun p => ⟨[up p.1, up p.2]⟩, fun p => by show PyData.tuple [em (up p.1), em (up p.2)] = PyData.tuple [em p.1, em p.2]; rw [Up.ok, Up.ok]⟩
instance upT3Tp [Up α δ] [Up β δ] [Up γ δ] : Up (T3 α β γ) (Tp δ) := ⟨fun p => ⟨[up p.a, up p.b, up p.c]⟩, fun p => by show PyData.tuple [em (up p.a), em (up p.b), em (up p.c)] = PyData.tuple [em p.a, em p.b, em p.c]; rw [Up.ok, Up.ok, Up.ok]⟩
instance upT4Tp [Up α α'] [Up β α'] [Up γ α'] [Up δ α'] : Up (T4 α β γ δ) (Tp α') := ⟨fun p => ⟨[up p.a, up p.b, up p.c, up p.e]⟩, fun p => by show PyData.tuple [em (up p.a), em (up p.b), em (up p.c), em (up p.e)] = PyData.tuple [em p.a, em p.b, em p.c, em p.e]; rw [Up.ok, Up.ok, Up.ok, Up.ok]⟩
@[simp] theorem up_refl (a : α) : (up a : α) = a := rfl
@[simp] theorem up_D (a : α) : @up α D _ _ upD a = em a := rfl
@[simp] theorem up_some (a : α) : @up α (Option α) _ _ upSome a = some a := rfl
@[simp] theorem up_none (a : NoneV) : (up a : Option α) = none := rfl
@[simp] theorem up_nilL (a : NilL) : (up a : List α) = [] := rfl
@[simp] theorem up_nilT (a : NilT) : (up a : Tp α) = ⟨[]⟩ := rfl
def upR [Up α β] (t : R α) : R β := t >>= fun x => .ok (up x)
@[simp] theorem upR_ok [Up α β] (a : α) : upR (.ok a) = (.ok (up a) : R β) := rfl
@[simp] theorem upR_ex [Up α β] (c : Nat) : upR (.ex c : R α) = (.ex c : R β) := rfl
@[simp] theorem upR_refl (t : R α) : (upR t : R α) = t := by cases t <;> rfl
theorem ref_up [Up α β] {d : R D} {t : R α} (h : Ref d t) : Ref d (upR t : R β) := h.mapL (f := .ok) (fun a => rfl) |> fun _ => by
  cases t with
  | ok a => show d = .ok (em (up a)); rw [Up.ok]; exact h
  | ex c => exact h
  | bad => exact trivial
/-- a datum as a type's thing, if it is one -/
noncomputable def castR (d : D) : R α := by
  classical
  exact if h : ∃ a : α, em a = d then .ok h.choose else .bad
theorem ref_castR (d : D) : Ref (.ok d) (castR d : R α) := by
  unfold castR
  split
  · rename_i h; exact congrArg R.ok h.choose_spec.symm
  · exact trivial
theorem ref_cast {d : R D} {t : R β} (h : Ref d t) : Ref d (t >>= fun x => (castR (em x) : R α)) := by
  cases t with
  | ok a => rw [show d = .ok (em a) from h]; exact ref_castR (em a)
  | ex c => exact h
  | bad => exact trivial
end
/-! ### one operand -/
class O1 (o : Op1) (α : Type) (β : outParam Type) [Em α] [Em β] where
  f : α → R β
  ok : ∀ x, Ref (op1D o (em x)) (f x)
class O2 (o : Op2) (α β : Type) (γ : outParam Type) [Em α] [Em β] [Em γ] where
  f : α → β → R γ
  ok : ∀ x y, Ref (op2D o (em x) (em y)) (f x y)
/-- an op with a number that stands in the text -/
class OC (o : Op2) (k : Int) (α : Type) (γ : outParam Type) [Em α] [Em γ] where
  f : α → R γ
  ok : ∀ x, Ref (op2D o (em x) (.int k)) (f x)
/-- things whose equality is told -/
class EmE (α : Type) [Em α] where
  eqv : ∀ a b : α, PyData.eqv (em a) (em b) = true ↔ a = b
  lay : ∀ a : α, (em a).canLay0 = true
  n : Nat
  dep : ∀ a : α, (em a).depth ≤ n
/-- shallow things -/
class Shp (α : Type) [Em α] [EmE α] : Prop where
  sh : EmE.n α ≤ 60
/-- things that are no None -/
class NoNone (α : Type) [Em α] : Prop where
  h : ∀ a : α, PyData.eqv (em a) .none = false ∧ PyData.eqv .none (em a) = false ∧ isNoneD (em a) = false
section
variable {α β γ δ : Type} [Em α] [Em β] [Em γ] [Em δ]
instance : EmE Int := ⟨fun a b => by simp [em, PyData.eqv], fun _ => rfl, 0, fun _ => Nat.le_refl _⟩
instance : EmE Bool := ⟨fun a b => by simp [em, PyData.eqv], fun _ => rfl, 0, fun _ => Nat.le_refl _⟩
theorem ofString_inj {a b : String} : Str.ofString a = Str.ofString b ↔ a = b := by
  constructor
  · intro h
    rw [Str.ofString_eq_toList, Str.ofString_eq_toList] at h
    injection h with h
    have h := congrArg Array.toList h
    simp only at h
    have h3 : a.toList = b.toList := by
      have inj : ∀ l m : List Char, l.map Char.toNat = m.map Char.toNat → l = m := fun l => by
        induction l with
        | nil => intro m h; cases m; rfl; cases h
        | cons x l ih =>
          intro m h
          cases m with
          | nil => cases h
          | cons y m =>
            rw [List.map_cons, List.map_cons] at h
            injection h with h1 h2
            rw [ih m h2, show x = y from Char.ext (UInt32.toNat_inj.mp h1)]
      exact inj _ _ h
    exact String.ext_iff.mpr h3
  · intro h; rw [h]
theorem strOk_of (a : String) : PyData.strOk (Str.ofString a) = true := by
  rw [Str.ofString_eq_toList]
  unfold PyData.strOk
  rw [List.all_toArray, List.all_eq_true]
  intro x hx
  obtain ⟨c, _, rfl⟩ := List.mem_map.mp hx
  have := c.valid
  rw [decide_eq_true_eq]
  show c.val.toNat < _
  unfold UInt32.isValidChar Nat.isValidChar at this
  omega
instance : EmE String := ⟨fun a b => by
    show PyData.eqv (.str _) (.str _) = true ↔ _
    simp only [PyData.eqv, beq_iff_eq]
    exact ofString_inj, fun a => by show PyData.canLay0 (.str _) = true; simp only [PyData.canLay0]; exact strOk_of a, 0, fun _ => Nat.le_refl _⟩
theorem eqvAll_em [EmE α] : ∀ xs ys : List α, PyData.eqvAll (xs.map em) (ys.map em) = true ↔ xs = ys
  | [], [] => by simp [PyData.eqvAll]
  | [], _ :: _ => by simp [PyData.eqvAll]
  | _ :: _, [] => by simp [PyData.eqvAll]
  | x :: xs, y :: ys => by
    simp only [List.map_cons, PyData.eqvAll, Bool.and_eq_true, List.cons.injEq]
    rw [eqvAll_em xs ys, EmE.eqv]
theorem layAll_em [EmE α] : ∀ xs : List α, PyData.canLayAll0 (xs.map em) = true
  | [] => rfl
  | x :: xs => by
    simp only [List.map_cons, PyData.canLayAll0, Bool.and_eq_true]
    exact ⟨EmE.lay x, layAll_em xs⟩
theorem depAll_em [EmE α] : ∀ xs : List α, PyData.depthAll (xs.map em) ≤ EmE.n α
  | [] => Nat.zero_le _
  | x :: xs => by
    have h1 := EmE.dep x
    have h2 := depAll_em xs
    simp only [List.map_cons, PyData.depthAll]
    omega
instance [EmE α] : EmE (List α) where
  eqv a b := by simp only [em_list, PyData.eqv]; exact eqvAll_em a b
  lay a := by simp only [em_list, PyData.canLay0]; exact layAll_em a
  n := EmE.n α + 1
  dep a := by have := depAll_em a; simp only [em_list, PyData.depth]; omega
instance [EmE α] : EmE (Tp α) where
  eqv a b := by
    cases a; cases b
    simp only [em_tp, PyData.eqv, Tp.mk.injEq]
    exact eqvAll_em _ _
  lay a := by cases a; simp only [em_tp, PyData.canLay0]; exact layAll_em _
  n := EmE.n α + 1
  dep a := by cases a with | mk l => have := depAll_em l; simp only [em_tp, PyData.depth]; omega
instance [EmE α] [EmE β] : EmE (α × β) where
  eqv a b := by
    cases a; cases b
    simp only [em_pair, PyData.eqv, PyData.eqvAll, Bool.and_eq_true, Prod.mk.injEq, Bool.and_true]
    rw [EmE.eqv, EmE.eqv]
  lay a := by simp only [em_pair, PyData.canLay0, PyData.canLayAll0, Bool.and_eq_true]; exact ⟨EmE.lay _, EmE.lay _, trivial⟩
  n := max (EmE.n α) (EmE.n β) + 1
  dep a := by
    have h1 := EmE.dep a.1
    have h2 := EmE.dep a.2
    simp only [em_pair, PyData.depth, PyData.depthAll]
    omega
instance [EmE α] [EmE β] [EmE γ] : EmE (T3 α β γ) where
  eqv a b := by
    cases a; cases b
    simp only [em_t3, PyData.eqv, PyData.eqvAll, Bool.and_eq_true, T3.mk.injEq, Bool.and_true]
    rw [EmE.eqv, EmE.eqv, EmE.eqv]
  lay a := by simp only [em_t3, PyData.canLay0, PyData.canLayAll0, Bool.and_eq_true]; exact ⟨EmE.lay _, EmE.lay _, EmE.lay _, trivial⟩
  n := max (max (EmE.n α) (EmE.n β)) (EmE.n γ) + 1
  dep a := by
    have h1 := EmE.dep a.a
    have h2 := EmE.dep a.b
    have h3 := EmE.dep a.c
    simp only [em_t3, PyData.depth, PyData.depthAll]
    omega
instance [EmE α] [EmE β] [EmE γ] [EmE δ] : EmE (T4 α β γ δ) where
  eqv a b := by
    cases a; cases b
    show PyData.eqv (.tuple _) (.tuple _) = true ↔ _
    simp only [PyData.eqv, PyData.eqvAll, Bool.and_eq_true, T4.mk.injEq, Bool.and_true]
    rw [EmE.eqv, EmE.eqv, EmE.eqv, EmE.eqv]
  lay a := by
    show PyData.canLay0 (.tuple _) = true
    simp only [PyData.canLay0, PyData.canLayAll0, Bool.and_eq_true]; exact ⟨EmE.lay _, EmE.lay _, EmE.lay _, EmE.lay _, trivial⟩
  n := max (max (EmE.n α) (EmE.n β)) (max (EmE.n γ) (EmE.n δ)) + 1
  dep a := by
    have h1 := EmE.dep a.a
    have h2 := EmE.dep a.b
    have h3 := EmE.dep a.c
    have h4 := EmE.dep a.e
    show PyData.depth (.tuple _) ≤ _
    simp only [PyData.depth, PyData.depthAll]
    omega
instance : NoNone Int := ⟨fun _ => ⟨rfl, rfl, rfl⟩⟩
instance : NoNone Bool := ⟨fun _ => ⟨rfl, rfl, rfl⟩⟩
instance : NoNone String := ⟨fun _ => ⟨rfl, rfl, rfl⟩⟩
instance : NoNone (List α) := ⟨fun _ => ⟨rfl, rfl, rfl⟩⟩
instance : NoNone (Tp α) := ⟨fun _ => ⟨rfl, rfl, rfl⟩⟩
instance : NoNone (α × β) := ⟨fun _ => ⟨rfl, rfl, rfl⟩⟩
instance : NoNone (T3 α β γ) := ⟨fun _ => ⟨rfl, rfl, rfl⟩⟩
instance : NoNone (T4 α β γ δ) := ⟨fun _ => ⟨rfl, rfl, rfl⟩⟩
instance [EmE α] [NoNone α] : EmE (Option α) where
  eqv a b := by
    cases a with
    | none => cases b with
      | none => simp [em, PyData.eqv]
      | some b =>
        have := (NoNone.h b).2.1
        show PyData.eqv .none (em b) = true ↔ _
        simp [this]
    | some a => cases b with
      | none =>
        have := (NoNone.h a).1
        show PyData.eqv (em a) .none = true ↔ _
        simp [this]
      | some b =>
        show PyData.eqv (em a) (em b) = true ↔ _
        rw [EmE.eqv]; simp
  lay a := match a with
    | none => rfl
    | some a => EmE.lay a
  n := EmE.n α
  dep a := match a with
    | none => Nat.zero_le _
    | some a => EmE.dep a
theorem shaped_em [EmE α] [Shp α] (a : α) : SeqAt.shaped (em a) = true := by
  unfold SeqAt.shaped
  rw [Bool.and_eq_true, decide_eq_true_eq]
  exact ⟨EmE.lay a, Nat.le_trans (EmE.dep a) (Nat.le_trans Shp.sh (by decide))⟩
theorem eqv_em [EmE α] [DecidableEq α] (a b : α) : PyData.eqv (em a) (em b) = decide (a = b) := by
  rw [Bool.eq_iff_iff, decide_eq_true_eq]
  exact EmE.eqv a b
theorem eqD_em [EmE α] [Shp α] [DecidableEq α] (a b : α) : eqD (em a) (em b) = .ok (decide (a = b)) := by
  unfold eqD
  rw [shaped_em, shaped_em, eqv_em]
  rfl
end
abbrev Pl := Int × Tp Int
abbrev Wy := T3 Int Int Int
abbrev Wd := T3 (Tp Pl) (Tp Pl) (Tp Wy)
abbrev Plan := Tp Int
instance : Shp Int := ⟨by decide⟩
instance : Shp Bool := ⟨by decide⟩
instance : Shp String := ⟨by decide⟩
instance : Shp Plan := ⟨by decide⟩
instance : Shp (Option Int) := ⟨by decide⟩
instance : Shp (Option String) := ⟨by decide⟩
instance : Shp (Option (Int × Int)) := ⟨by decide⟩
instance : Shp (Int × Int) := ⟨by decide⟩
instance : Shp Wy := ⟨by decide⟩
instance : Shp Wd := ⟨by decide⟩
instance : Shp (Tp Wy) := ⟨by decide⟩
instance : Shp (Tp Pl) := ⟨by decide⟩
instance : Shp (List Int) := ⟨by decide⟩
instance : Shp (List Bool) := ⟨by decide⟩
instance : Shp (List (Int × Int)) := ⟨by decide⟩
instance : Shp (List Wy) := ⟨by decide⟩
instance : Shp (List Plan) := ⟨by decide⟩
instance : Shp (List (List Int)) := ⟨by decide⟩
instance : Shp (List String) := ⟨by decide⟩
instance : Shp (Option Plan) := ⟨by decide⟩
instance : Shp (Tp (Int × Int)) := ⟨by decide⟩
instance : Shp (Tp Plan) := ⟨by decide⟩
instance : Shp (Plan × Plan) := ⟨by decide⟩
instance : Shp (Bool × Bool) := ⟨by decide⟩
instance : Shp (T3 Wd Plan Int) := ⟨by decide⟩
instance : Shp (String × Int) := ⟨by decide⟩
instance : Shp (List (String × Int)) := ⟨by decide⟩
instance : Shp (List (Option String)) := ⟨by decide⟩
instance : Shp (T4 Int Int Int Int) := ⟨by decide⟩
instance : Shp (List (T4 Int Int Int Int)) := ⟨by decide⟩
end SF

/-! Typed operations. -/
namespace SF
open SF.Em (em)
open SF.Up (up)
open PySem
section
variable {α β γ δ : Type} [Em α] [Em β] [Em γ] [Em δ]
/-! ### one operand -/
instance : O1 .neg Int Int := ⟨fun x => .ok (-x), fun _ => rfl⟩
instance : O1 .len (List α) Int := ⟨fun x => .ok x.length, fun x => by show R.ok _ = R.ok _; rw [List.length_map]; rfl⟩
instance : O1 .len (Tp α) Int := ⟨fun x => .ok x.l.length, fun x => by show R.ok _ = R.ok _; rw [List.length_map]; rfl⟩
instance : O1 .len (α × β) Int := ⟨fun x => .ok 2, fun x => rfl⟩
instance : O1 .len (T3 α β γ) Int := ⟨fun x => .ok 3, fun x => rfl⟩
theorem ref_intOf (r : R D) : Ref r (intOf r) := by
  cases r with
  | ok d => cases d with
    | int i => exact rfl
    | _ => exact trivial
  | ex c => exact rfl
  | bad => exact trivial
theorem ref_boolOf (r : R D) : Ref r (boolOf r) := by
  cases r with
  | ok d => cases d with
    | bool i => exact rfl
    | _ => exact trivial
  | ex c => exact rfl
  | bad => exact trivial
theorem ref_listOf (r : R D) : Ref r (listOf r : R (List D)) := by
  cases r with
  | ok d => cases d with
    | list i => show R.ok (PyData.list i) = .ok (.list (i.map id)); rw [List.map_id]
    | _ => exact trivial
  | ex c => exact rfl
  | bad => exact trivial
def tpOf (r : R D) : R (Tp D) := tupleOf r >>= fun l => .ok ⟨l⟩
theorem ref_tpOf (r : R D) : Ref r (tpOf r) := by
  cases r with
  | ok d => cases d with
    | tuple i => show R.ok (PyData.tuple i) = .ok (.tuple (i.map id)); rw [List.map_id]
    | _ => exact trivial
  | ex c => exact rfl
  | bad => exact trivial
theorem ref_dyn (r : R D) : Ref r r := by cases r <;> first | exact rfl | exact trivial
instance : O1 .len D Int := ⟨fun x => intOf (op1D .len x), fun x => ref_intOf _⟩
instance : O1 .tupleOf (List α) (Tp α) := ⟨fun x => .ok ⟨x⟩, fun _ => rfl⟩
instance : O1 .tupleOf (Tp α) (Tp α) := ⟨fun x => .ok x, fun _ => rfl⟩
instance : O1 .tupleOf D (Tp D) := ⟨fun x => tpOf (op1D .tupleOf x), fun x => ref_tpOf _⟩
instance : O1 .listOf (List α) (List α) := ⟨fun x => .ok x, fun _ => rfl⟩
instance : O1 .listOf (Tp α) (List α) := ⟨fun x => .ok x.l, fun _ => rfl⟩
instance : O1 .listOf (T3 α β γ) (List D) := ⟨fun x => .ok [em x.a, em x.b, em x.c], fun _ => rfl⟩
instance : O1 .listOf D (List D) := ⟨fun x => listOf (op1D .listOf x), fun x => ref_listOf _⟩
theorem intsD_em (l : List Int) : intsD (l.map em) = .ok l := by
  induction l with
  | nil => rfl
  | cons x l ih => show (intsD (l.map em) >>= fun is => R.ok (x :: is)) = _; rw [ih]; rfl
theorem boolsD_em (l : List Bool) : boolsD (l.map em) = .ok l := by
  induction l with
  | nil => rfl
  | cons x l ih => show (boolsD (l.map em) >>= fun is => R.ok (x :: is)) = _; rw [ih]; rfl
instance : O1 .sum (List Int) Int := ⟨fun x => .ok x.sum, fun x => by show (intsD (x.map em) >>= fun is => R.ok (PyData.int is.sum)) = _; rw [intsD_em]; rfl⟩
instance : O1 .sum (Tp Int) Int := ⟨fun x => .ok x.l.sum, fun x => by show (intsD (x.l.map em) >>= fun is => R.ok (PyData.int is.sum)) = _; rw [intsD_em]; rfl⟩
instance : O1 .sum (Int × Int) Int := ⟨fun x => .ok (x.1 + x.2), fun x => by show R.ok (PyData.int (x.1 + (x.2 + 0))) = _; rw [Int.add_zero]; rfl⟩
instance : O1 .any (List Bool) Bool := ⟨fun x => .ok (x.any id), fun x => by show (boolsD (x.map em) >>= fun is => R.ok (PyData.bool (is.any id))) = _; rw [boolsD_em]; rfl⟩
instance : O1 .all (List Bool) Bool := ⟨fun x => .ok (x.all id), fun x => by show (boolsD (x.map em) >>= fun is => R.ok (PyData.bool (is.all id))) = _; rw [boolsD_em]; rfl⟩
instance : O1 .abs Int Int := ⟨fun x => .ok (if x < 0 then -x else x), fun _ => rfl⟩
instance : O1 .intOf Int Int := ⟨fun x => .ok x, fun _ => rfl⟩
instance : O1 .intOf Bool Int := ⟨fun x => .ok (if x then 1 else 0), fun _ => rfl⟩
instance {t : Ty} : O1 (.isInst t) D Bool := ⟨fun x => boolOf (op1D (.isInst t) x), fun x => ref_boolOf _⟩
instance : O1 .rev (List α) (List α) := ⟨fun x => .ok x.reverse, fun x => by show R.ok (PyData.list (x.map em).reverse) = R.ok (PyData.list _); rw [← List.map_reverse]⟩
instance : O1 .rev (Tp α) (Tp α) := ⟨fun x => .ok ⟨x.l.reverse⟩, fun x => by show R.ok (PyData.tuple (x.l.map em).reverse) = R.ok (PyData.tuple _); rw [← List.map_reverse]⟩
instance : O1 .rev (α × β) (β × α) := ⟨fun x => .ok (x.2, x.1), fun x => rfl⟩
instance : O1 .rev D D := ⟨fun x => op1D .rev x, fun x => ref_dyn _⟩
noncomputable instance : O1 .lenSet D Int := ⟨fun x => intOf (op1D .lenSet x), fun x => ref_intOf _⟩
def lenSetI (l : List Int) : R Int := if l.length < 64 then .ok (dedupL l).length else .bad
noncomputable instance : O1 .lenSet (List Int) Int := ⟨lenSetI, fun x => by
  show RefW _ (lenSetD (x.map em)) _
  unfold lenSetD lenSetI
  rw [intsD_em]
  dsimp only
  split <;> first | exact rfl | exact trivial⟩
/-- tuples of ints -/
class Fl (α : Type) [Em α] where
  fl : α → List Int
  ok : ∀ a, em a = tupD (fl a)
instance : Fl (Int × Int) := ⟨fun p => [p.1, p.2], fun _ => rfl⟩
instance : Fl (T3 Int Int Int) := ⟨fun p => [p.a, p.b, p.c], fun _ => rfl⟩
instance : Fl (T4 Int Int Int Int) := ⟨fun p => [p.a, p.b, p.c, p.e], fun _ => rfl⟩
instance : Fl (Tp Int) := ⟨fun p => p.l, fun _ => rfl⟩
def insF [Fl α] (x : α) : List α → List α
  | [] => [x]
  | y :: r => if lexLe (Fl.fl x) (Fl.fl y) then x :: y :: r else y :: insF x r
def sortF [Fl α] : List α → List α
  | [] => []
  | x :: r => insF x (sortF r)
def okF [Fl α] (xs : List α) : Bool := let ts := xs.map Fl.fl; okTups ((ts.headD []).length) ts || ts.isEmpty
theorem insF_map [Fl α] (x : α) : ∀ l : List α, (insF x l).map Fl.fl = insL lexLe (Fl.fl x) (l.map Fl.fl)
  | [] => rfl
  | y :: r => by
    unfold insF
    rw [List.map_cons]
    unfold insL
    split
    · rfl
    · rw [List.map_cons, insF_map x r]
theorem sortF_map [Fl α] : ∀ l : List α, (sortF l).map Fl.fl = sortL (l.map Fl.fl)
  | [] => rfl
  | x :: r => by
    show (insF x (sortF r)).map Fl.fl = insL lexLe (Fl.fl x) (sortL (r.map Fl.fl))
    rw [insF_map, sortF_map r]
theorem map_fl [Fl α] (l : List α) : l.map em = (l.map Fl.fl).map tupD := by
  rw [List.map_map]
  exact List.map_congr_left fun a _ => Fl.ok a
theorem tupsD_fl (l : List (List Int)) : tupsD (l.map tupD) = .ok l := by
  induction l with
  | nil => rfl
  | cons x l ih =>
    show (intsD (x.map em) >>= fun x => tupsD (l.map tupD) >>= fun is => R.ok (x :: is)) = _
    rw [intsD_em, ih]; rfl
noncomputable def sortN [Fl α] (xs : List α) : R (List α) := gd (okF xs = true) (.ok (sortF xs))
noncomputable instance [Fl α] : O1 .sorted (List α) (List α) := ⟨sortN, fun xs => by
  show RefW _ (sortedD (xs.map em)) _
  unfold sortedD sortN okF
  rw [map_fl, tupsD_fl]
  dsimp only
  by_cases c : (okTups (((xs.map Fl.fl).headD []).length) (xs.map Fl.fl) || (xs.map Fl.fl).isEmpty) = true
  · rw [if_pos c, gd_pos c, ← sortF_map, ← map_fl]; exact rfl
  · rw [if_neg c, gd_neg c]; exact trivial⟩
def insI' := insI
noncomputable instance : O1 .sorted (List Int) (List Int) := ⟨fun xs => if xs = [] ∨ 64 ≤ xs.length then .bad else .ok (sortI xs), fun xs => by
  show RefW _ (sortedD (xs.map em)) _
  cases xs with
  | nil => exact trivial
  | cons x xs =>
    by_cases h : 64 ≤ (x :: xs).length
    · rw [if_pos (.inr h)]; exact trivial
    · rw [if_neg (by simp at h ⊢; omega)]
      unfold sortedD
      have e : tupsD ((x :: xs).map em) = .bad := rfl
      rw [e]
      dsimp only
      rw [intsD_em]
      dsimp only
      rw [if_pos (by omega)]
      exact rfl⟩
noncomputable instance : O1 .sorted (List D) (List D) := ⟨fun xs => listOf (sortedD xs), fun xs => by
  show RefW _ (sortedD (xs.map id)) _
  rw [List.map_id]
  exact ref_listOf _⟩
noncomputable instance : O1 .sortedSet (List D) (List D) := ⟨fun xs => listOf (sortedSetD xs), fun xs => by
  show RefW _ (sortedSetD (xs.map id)) _
  rw [List.map_id]
  exact ref_listOf _⟩
noncomputable def sortSetN [Fl α] [DecidableEq α] (xs : List α) : R (List α) := gd (okF xs = true) (.ok (sortF (dedupL xs)))
class FlI (α : Type) [Em α] [Fl α] : Prop where
  inj : ∀ a b : α, Fl.fl a = Fl.fl b → a = b
instance : FlI (Int × Int) := ⟨fun a b h => by cases a; cases b; simp [Fl.fl] at h; simp [h]⟩
instance : FlI (T3 Int Int Int) := ⟨fun a b h => by cases a; cases b; simp [Fl.fl] at h; simp [h]⟩
instance : FlI (T4 Int Int Int Int) := ⟨fun a b h => by cases a; cases b; simp [Fl.fl] at h; simp [h]⟩
instance : FlI (Tp Int) := ⟨fun a b h => by cases a; cases b; simp [Fl.fl] at h; simp [h]⟩
theorem dedup_fl [Fl α] [FlI α] [DecidableEq α] : ∀ l : List α, dedupL (l.map Fl.fl) = (dedupL l).map Fl.fl
  | [] => rfl
  | x :: r => by
    rw [List.map_cons]
    unfold dedupL
    rw [dedup_fl r]
    have : Fl.fl x ∈ r.map Fl.fl ↔ x ∈ r := by
      constructor
      · intro h
        obtain ⟨y, h1, h2⟩ := List.mem_map.mp h
        rw [← FlI.inj y x h2]; exact h1
      · exact fun h => List.mem_map.mpr ⟨x, h, rfl⟩
    by_cases hx : x ∈ r
    · rw [if_pos hx, if_pos (this.mpr hx)]
    · rw [if_neg hx, if_neg (fun c => hx (this.mp c)), List.map_cons]
noncomputable instance [Fl α] [FlI α] [DecidableEq α] : O1 .sortedSet (List α) (List α) := ⟨sortSetN, fun xs => by
  show RefW _ (sortedSetD (xs.map em)) _
  unfold sortedSetD sortSetN okF
  rw [map_fl, tupsD_fl]
  dsimp only
  by_cases c : (okTups (((xs.map Fl.fl).headD []).length) (xs.map Fl.fl) || (xs.map Fl.fl).isEmpty) = true
  · rw [if_pos c, gd_pos c, dedup_fl, ← sortF_map, ← map_fl]; exact rfl
  · rw [if_neg c, gd_neg c]; exact trivial⟩
/-! ### two operands -/
noncomputable instance : O2 .add Int Int Int := ⟨fun x y => .ok (x + y), fun _ _ => rfl⟩
instance : O2 .sub Int Int Int := ⟨fun x y => .ok (x - y), fun _ _ => rfl⟩
noncomputable def mulN (i j : Int) : R Int := gd ((small64 i || small64 j) = true) (.ok (i * j))
noncomputable instance : O2 .mul Int Int Int := ⟨mulN, fun i j => by
  show RefW _ (mulD (.int i) (.int j)) _
  unfold mulD mulN
  dsimp only
  by_cases c : (small64 i || small64 j) = true
  · rw [if_pos c, gd_pos c]; exact rfl
  · rw [if_neg c, gd_neg c]; exact trivial⟩
noncomputable def fdivN (i j : Int) : R Int := gd ((decide (0 < j) && decide (j < 1073741824)) = true) (.ok (i / j))
noncomputable instance : O2 .fdiv Int Int Int := ⟨fdivN, fun i j => by
  unfold fdivN op2D
  dsimp only [em_int]
  by_cases c : (decide (0 < j) && decide (j < 1073741824)) = true
  · rw [if_pos c, gd_pos c]; exact rfl
  · rw [if_neg c, gd_neg c]; exact trivial⟩
def modN (i j : Int) : R Int := if 0 < j then .ok (i % j) else .bad
instance : O2 .mod Int Int Int := ⟨modN, fun i j => by
  unfold modN op2D
  dsimp only [em_int]
  split <;> first | exact rfl | exact trivial⟩
noncomputable def addLN (x y : List α) : R (List α) := gd (x.length + y.length ≤ 1000000) (.ok (x ++ y))
noncomputable def addTN (x y : Tp α) : R (Tp α) := gd (x.l.length + y.l.length ≤ 1000000) (.ok ⟨x.l ++ y.l⟩)
noncomputable instance : O2 .add (List α) (List α) (List α) := ⟨addLN, fun x y => by
  show RefW _ (addD (.list (x.map em)) (.list (y.map em))) _
  unfold addD addLN
  simp only [List.length_map]
  by_cases c : x.length + y.length ≤ 1000000
  · rw [if_pos c, gd_pos c]; show R.ok (PyData.list _) = R.ok (PyData.list _); rw [List.map_append]
  · rw [if_neg c, gd_neg c]; exact trivial⟩
noncomputable instance : O2 .add (Tp α) (Tp α) (Tp α) := ⟨addTN, fun x y => by
  show RefW _ (addD (.tuple (x.l.map em)) (.tuple (y.l.map em))) _
  unfold addD addTN
  simp only [List.length_map]
  by_cases c : x.l.length + y.l.length ≤ 1000000
  · rw [if_pos c, gd_pos c]; show R.ok (PyData.tuple _) = R.ok (PyData.tuple _); rw [List.map_append]
  · rw [if_neg c, gd_neg c]; exact trivial⟩
noncomputable instance addNilT : O2 .add NilT (Tp α) (Tp α) := ⟨fun _ y => addTN ⟨[]⟩ y, fun x y => O2.ok (o := .add) (⟨[]⟩ : Tp α) y⟩
/-- a pair and a row of one more -/
def addP3 (x : α × β) (y : Tp γ) : R (T3 α β γ) := match y.l with
  | [z] => .ok ⟨x.1, x.2, z⟩
  | _ => .bad
noncomputable instance : O2 .add (α × β) (Tp γ) (T3 α β γ) := ⟨addP3, fun x y => by
  unfold addP3
  split
  · rename_i z h
    show addD (.tuple [em x.1, em x.2]) (.tuple (y.l.map em)) = _
    rw [h]; rfl
  · exact trivial⟩
noncomputable instance : O2 .add (Tp α) (α × α) (Tp α) := ⟨fun x y => addTN x ⟨[y.1, y.2]⟩, fun x y => O2.ok (o := .add) x (⟨[y.1, y.2]⟩ : Tp α)⟩
theorem map_repL (f : α → β) (xs : List α) (k : Int) : (repL xs k).map f = repL (xs.map f) k := by
  unfold repL
  rw [List.map_flatten, List.map_replicate]
noncomputable def mulLN (xs : List α) (k : Int) : R (List α) := gd ((decide (k ≤ 1000) && decide (-1000000 < k) && decide (xs.length ≤ 1000)) = true) (.ok (repL xs k))
noncomputable def mulTN (xs : Tp α) (k : Int) : R (Tp α) := mulLN xs.l k >>= fun l => .ok ⟨l⟩
noncomputable instance : O2 .mul (List α) Int (List α) := ⟨mulLN, fun xs k => by
  show RefW _ (mulD (.list (xs.map em)) (.int k)) _
  unfold mulD mulLN
  simp only [List.length_map]
  by_cases c : (decide (k ≤ 1000) && decide (-1000000 < k) && decide (xs.length ≤ 1000)) = true
  · rw [if_pos c, gd_pos c]; show R.ok (PyData.list _) = R.ok (PyData.list _); rw [map_repL]
  · rw [if_neg c, gd_neg c]; exact trivial⟩
noncomputable instance : O2 .mul (Tp α) Int (Tp α) := ⟨mulTN, fun xs k => by
  show RefW _ (mulD (.tuple (xs.l.map em)) (.int k)) _
  unfold mulTN mulD mulLN
  simp only [List.length_map]
  by_cases c : (decide (k ≤ 1000) && decide (-1000000 < k) && decide (xs.l.length ≤ 1000)) = true
  · rw [if_pos c, gd_pos c]; show R.ok (PyData.tuple _) = R.ok (PyData.tuple _); rw [map_repL]
  · rw [if_neg c, gd_neg c]; exact trivial⟩
instance [EmE α] [Shp α] [DecidableEq α] : O2 .eq α α Bool := ⟨fun x y => .ok (decide (x = y)), fun x y => by
  show bl (eqD (em x) (em y)) = _
  rw [eqD_em]; rfl⟩
instance [EmE α] [Shp α] [DecidableEq α] : O2 .ne α α Bool := ⟨fun x y => .ok (!decide (x = y)), fun x y => by
  show bl (do let e ← eqD (em x) (em y); .ok (!e)) = _
  rw [eqD_em]; rfl⟩
theorem ref_bl (r : R Bool) : Ref (bl r) r := by cases r <;> first | exact rfl | exact trivial
def eqDN (x y : D) : R Bool := eqD x y
def neDN (x y : D) : R Bool := eqD x y >>= fun e => .ok (!e)
instance : O2 .eq D D Bool := ⟨eqDN, fun x y => ref_bl _⟩
instance : O2 .ne D D Bool := ⟨neDN, fun x y => ref_bl _⟩
instance (priority := low) : O2 .eq α D Bool := ⟨fun x y => eqDN (em x) y, fun x y => ref_bl _⟩
instance (priority := low) : O2 .ne α D Bool := ⟨fun x y => neDN (em x) y, fun x y => ref_bl _⟩
instance (priority := low) : O2 .eq D α Bool := ⟨fun x y => eqDN x (em y), fun x y => ref_bl _⟩
instance (priority := low) : O2 .ne D α Bool := ⟨fun x y => neDN x (em y), fun x y => ref_bl _⟩
instance [EmE α] [Shp α] [NoNone α] [Shp (Option α)] [DecidableEq α] : O2 .ne α (Option α) Bool := ⟨fun x y => .ok (!decide (some x = y)), fun x y => by
  show bl (do let e ← eqD (em (some x)) (em y); .ok (!e)) = _
  rw [eqD_em]; rfl⟩
instance [EmE α] [Shp α] [NoNone α] [Shp (Option α)] [DecidableEq α] : O2 .ne (Option α) α Bool := ⟨fun x y => .ok (!decide (x = some y)), fun x y => by
  show bl (do let e ← eqD (em x) (em (some y)); .ok (!e)) = _
  rw [eqD_em]; rfl⟩
theorem eqDN_em [EmE α] [Shp α] [DecidableEq α] (x y : α) : eqDN (em x) (em y) = .ok (decide (x = y)) := eqD_em x y
theorem neDN_em [EmE α] [Shp α] [DecidableEq α] (x y : α) : neDN (em x) (em y) = .ok (!decide (x = y)) := by unfold neDN; rw [eqD_em]; rfl
theorem isEmpty_dec (x : List α) [DecidableEq (List α)] : (decide (x = [])) = x.isEmpty := by cases x <;> simp
instance [EmE α] [Shp (List α)] : O2 .eq (List α) NilL Bool := ⟨fun x _ => .ok x.isEmpty, fun x y => by
  show bl (eqD (em x) (em ([] : List α))) = _
  unfold eqD
  rw [shaped_em, shaped_em]
  cases x <;> rfl⟩
instance [EmE α] [Shp (List α)] : O2 .ne (List α) NilL Bool := ⟨fun x _ => .ok (!x.isEmpty), fun x y => by
  show bl (do let e ← eqD (em x) (em ([] : List α)); .ok (!e)) = _
  unfold eqD
  rw [shaped_em, shaped_em]
  cases x <;> rfl⟩
instance [EmE α] [Shp (Tp α)] : O2 .eq (Tp α) NilT Bool := ⟨fun x _ => .ok x.l.isEmpty, fun x y => by
  show bl (eqD (em x) (em (⟨[]⟩ : Tp α))) = _
  unfold eqD
  rw [shaped_em, shaped_em]
  cases x with | mk l => cases l <;> rfl⟩
instance [EmE α] [Shp (Tp α)] : O2 .ne (Tp α) NilT Bool := ⟨fun x _ => .ok (!x.l.isEmpty), fun x y => by
  show bl (do let e ← eqD (em x) (em (⟨[]⟩ : Tp α)); .ok (!e)) = _
  unfold eqD
  rw [shaped_em, shaped_em]
  cases x with | mk l => cases l <;> rfl⟩
instance : O2 .eq D NilL Bool := ⟨fun x _ => eqDN x (.list []), fun x y => ref_bl _⟩
instance : O2 .ne D NilL Bool := ⟨fun x _ => neDN x (.list []), fun x y => ref_bl _⟩
instance : O2 .ne D NilT Bool := ⟨fun x _ => neDN x (.tuple []), fun x y => ref_bl _⟩
instance : O2 .ne (List D) NilL Bool := ⟨fun x _ => neDN (.list x) (.list []), fun x y => by
  show RefW _ (bl (do let e ← eqD (.list (x.map id)) (.list []); .ok (!e))) _
  rw [List.map_id]
  exact ref_bl _⟩
theorem em_listD (l : List D) : em l = PyData.list l := by show PyData.list (l.map id) = _; rw [List.map_id]
instance (priority := low) : O2 .eq (List D) (List D) Bool := ⟨fun x y => eqDN (.list x) (.list y), fun x y => by rw [em_listD, em_listD]; exact ref_bl _⟩
instance (priority := low) : O2 .ne (List D) (List D) Bool := ⟨fun x y => neDN (.list x) (.list y), fun x y => by rw [em_listD, em_listD]; exact ref_bl _⟩
instance : O2 .lt Int Int Bool := ⟨fun x y => .ok (decide (x < y)), fun _ _ => rfl⟩
instance : O2 .le Int Int Bool := ⟨fun x y => .ok (decide (x ≤ y)), fun _ _ => rfl⟩
instance : O2 .gt Int Int Bool := ⟨fun x y => .ok (decide (y < x)), fun _ _ => rfl⟩
instance : O2 .ge Int Int Bool := ⟨fun x y => .ok (decide (y ≤ x)), fun _ _ => rfl⟩
instance : O2 .le Int D Bool := ⟨fun x y => leD (.int x) y, fun x y => ref_bl _⟩
instance : O2 .le D Int Bool := ⟨fun x y => leD x (.int y), fun x y => ref_bl _⟩
instance : O2 .lt D Int Bool := ⟨fun x y => ltD x (.int y), fun x y => ref_bl _⟩
instance : O2 .ge D D Bool := ⟨fun x y => geD x y, fun x y => ref_bl _⟩
theorem any_mem [EmE α] [DecidableEq α] (l : List α) (x : α) : anyEq (l.map em) (em x) = decide (x ∈ l) := by
  unfold anyEq
  rw [List.any_map, Bool.eq_iff_iff, List.any_eq_true, decide_eq_true_eq]
  constructor
  · rintro ⟨y, h1, h2⟩
    have := (EmE.eqv y x).mp h2
    rw [← this]; exact h1
  · intro h
    exact ⟨x, h, (EmE.eqv x x).mpr rfl⟩
instance [EmE α] [Shp α] [Shp (List α)] [DecidableEq α] : O2 .isin α (List α) Bool := ⟨fun x l => .ok (decide (x ∈ l)), fun x l => by
  show bl (inD (em x) (.list (l.map em))) = _
  unfold inD
  dsimp only
  rw [shaped_em, show SeqAt.shaped (.list (l.map em)) = true from shaped_em l, any_mem]
  rfl⟩
instance [EmE α] [Shp α] [Shp (List α)] [DecidableEq α] : O2 .notin α (List α) Bool := ⟨fun x l => .ok (!decide (x ∈ l)), fun x l => by
  show bl (do let e ← inD (em x) (.list (l.map em)); .ok (!e)) = _
  unfold inD
  dsimp only
  rw [shaped_em, show SeqAt.shaped (.list (l.map em)) = true from shaped_em l, any_mem]
  rfl⟩
instance [EmE α] [Shp α] [Shp (Tp α)] [DecidableEq α] : O2 .isin α (Tp α) Bool := ⟨fun x l => .ok (decide (x ∈ l.l)), fun x l => by
  show bl (inD (em x) (.tuple (l.l.map em))) = _
  unfold inD
  dsimp only
  rw [shaped_em, show SeqAt.shaped (.tuple (l.l.map em)) = true from shaped_em l, any_mem]
  rfl⟩
instance [EmE α] [Shp α] [Shp (Tp α)] [DecidableEq α] : O2 .notin α (Tp α) Bool := ⟨fun x l => .ok (!decide (x ∈ l.l)), fun x l => by
  show bl (do let e ← inD (em x) (.tuple (l.l.map em)); .ok (!e)) = _
  unfold inD
  dsimp only
  rw [shaped_em, show SeqAt.shaped (.tuple (l.l.map em)) = true from shaped_em l, any_mem]
  rfl⟩
instance : O2 .isin D (List D) Bool := ⟨fun x l => inD x (.list l), fun x l => by
  show RefW _ (bl (inD x (.list (l.map id)))) _
  rw [List.map_id]; exact ref_bl _⟩
instance : O2 .notin D (List D) Bool := ⟨fun x l => inD x (.list l) >>= fun e => .ok (!e), fun x l => by
  show RefW _ (bl (do let e ← inD x (.list (l.map id)); .ok (!e))) _
  rw [List.map_id]; exact ref_bl _⟩
instance (priority := low) : O2 .notin D (List α) Bool := ⟨fun x l => inD x (em l) >>= fun e => .ok (!e), fun x l => ref_bl _⟩
instance (priority := low) : O2 .isin D (List α) Bool := ⟨fun x l => inD x (em l), fun x l => ref_bl _⟩
instance : O2 .isin α D Bool := ⟨fun x l => inD (em x) l, fun x l => ref_bl _⟩
/-- what stands at a place -/
def atN (l : List α) (i : Int) : R α := match (placeD l.length i).bind fun j => l[j]? with
  | some d => .ok d
  | none => .bad
theorem atN_em (l : List α) (i : Int) : Ref (idxL (l.map em) i) (atN l i) := by
  unfold idxL atN
  rw [List.length_map]
  cases placeD l.length i with
  | none => exact trivial
  | some j =>
    show RefW _ (match (l.map em)[j]? with | some d => R.ok d | none => .bad) (match l[j]? with | some d => R.ok d | none => .bad)
    rw [List.getElem?_map]
    cases l[j]? <;> first | exact trivial | exact rfl
theorem atN_nat {l : List α} {n : Nat} {d : α} (h : l[n]? = some d) : atN l (n : Int) = .ok d := by
  unfold atN placeD
  have hn : n < l.length := (List.getElem?_eq_some_iff.mp h).1
  rw [if_pos (by omega), if_pos (by omega)]
  simp [h]
instance : O2 .idx (List α) Int α := ⟨atN, fun l i => atN_em l i⟩
instance : O2 .idx (Tp α) Int α := ⟨fun t i => atN t.l i, fun t i => atN_em t.l i⟩
def side2 (x : α × α) (i : Int) : R α := if i = 0 then .ok x.1 else if i = 1 then .ok x.2 else .bad
def side3 (x : T3 α α β) (i : Int) : R α := if i = 0 then .ok x.a else if i = 1 then .ok x.b else .bad
instance : O2 .idx (α × α) Int α := ⟨side2, fun x i => by
  unfold side2
  split
  · rename_i h; subst h; exact rfl
  · split
    · rename_i h; subst h; exact rfl
    · exact trivial⟩
instance : O2 .idx (T3 α α β) Int α := ⟨side3, fun x i => by
  unfold side3
  split
  · rename_i h; subst h; exact rfl
  · split
    · rename_i h; subst h; exact rfl
    · exact trivial⟩
instance : O2 .idx D Int D := ⟨fun x i => op2D .idx x (.int i), fun x i => ref_dyn _⟩
instance : OC .idx 0 (α × β) α := ⟨fun x => .ok x.1, fun _ => rfl⟩
instance : OC .idx 1 (α × β) β := ⟨fun x => .ok x.2, fun _ => rfl⟩
instance : OC .idx 0 (T3 α β γ) α := ⟨fun x => .ok x.a, fun _ => rfl⟩
instance : OC .idx 1 (T3 α β γ) β := ⟨fun x => .ok x.b, fun _ => rfl⟩
instance : OC .idx 2 (T3 α β γ) γ := ⟨fun x => .ok x.c, fun _ => rfl⟩
instance : OC .idx 0 (T4 α β γ δ) α := ⟨fun x => .ok x.a, fun _ => rfl⟩
instance : OC .idx 3 (T4 α β γ δ) δ := ⟨fun x => .ok x.e, fun _ => rfl⟩
instance {k : Int} : OC .idx k (List α) α := ⟨fun l => atN l k, fun l => atN_em l k⟩
instance {k : Int} : OC .idx k (Tp α) α := ⟨fun l => atN l.l k, fun l => atN_em l.l k⟩
instance {k : Int} : OC .idx k D D := ⟨fun x => op2D .idx x (.int k), fun x => ref_dyn _⟩
/-- a thing that is there -/
def optB (o : Option α) (f : α → R β) : R β := match o with | some x => f x | none => .bad
@[simp] theorem optB_some (x : α) (f : α → R β) : optB (some x) f = f x := rfl
instance {k : Int} [OC .idx k α β] : OC .idx k (Option α) β := ⟨fun x => optB x fun x => OC.f .idx k x, fun x => match x with
  | some x => OC.ok (o := .idx) (k := k) x
  | none => trivial⟩
instance : OC .to 2 (T3 α β γ) (α × β) := ⟨fun x => .ok (x.a, x.b), fun _ => rfl⟩
instance : OC .to 3 (T4 α β γ δ) (T3 α β γ) := ⟨fun x => .ok ⟨x.a, x.b, x.c⟩, fun _ => rfl⟩
instance : OC .from_ 1 (α × β) (Tp β) := ⟨fun x => .ok ⟨[x.2]⟩, fun _ => rfl⟩
instance : OC .from_ 1 (Option (α × β)) (Tp β) := ⟨fun x => optB x fun x => .ok ⟨[x.2]⟩, fun x => match x with
  | some x => rfl
  | none => trivial⟩
instance {k : Int} : OC .to k D D := ⟨fun x => op2D .to x (.int k), fun x => ref_dyn _⟩
instance {k : Int} : OC .from_ k D D := ⟨fun x => op2D .from_ x (.int k), fun x => ref_dyn _⟩
theorem toL_map (f : α → β) (l : List α) (i : Int) : toL (l.map f) i = (toL l i).map f := by unfold toL; rw [List.length_map, List.map_take]
theorem fromL_map (f : α → β) (l : List α) (i : Int) : fromL (l.map f) i = (fromL l i).map f := by unfold fromL; rw [List.length_map, List.map_drop]
theorem sliceL_map (f : α → β) (l : List α) (i j : Int) : sliceL (l.map f) i j = (sliceL l i j).map f := by unfold sliceL; rw [List.length_map, List.map_take, List.map_drop]
instance : O2 .to (List α) Int (List α) := ⟨fun l i => .ok (toL l i), fun l i => by show R.ok (PyData.list (toL (l.map em) i)) = _; rw [toL_map]; rfl⟩
instance : O2 .to (Tp α) Int (Tp α) := ⟨fun l i => .ok ⟨toL l.l i⟩, fun l i => by show R.ok (PyData.tuple (toL (l.l.map em) i)) = _; rw [toL_map]; rfl⟩
instance : O2 .from_ (List α) Int (List α) := ⟨fun l i => .ok (fromL l i), fun l i => by show R.ok (PyData.list (fromL (l.map em) i)) = _; rw [fromL_map]; rfl⟩
instance : O2 .from_ (Tp α) Int (Tp α) := ⟨fun l i => .ok ⟨fromL l.l i⟩, fun l i => by show R.ok (PyData.tuple (fromL (l.l.map em) i)) = _; rw [fromL_map]; rfl⟩
instance {k : Int} : OC .to k (List α) (List α) := ⟨fun l => .ok (toL l k), fun l => O2.ok (o := .to) l k⟩
instance {k : Int} : OC .from_ k (List α) (List α) := ⟨fun l => .ok (fromL l k), fun l => O2.ok (o := .from_) l k⟩
instance {k : Int} : OC .to k (Tp α) (Tp α) := ⟨fun l => .ok ⟨toL l.l k⟩, fun l => O2.ok (o := .to) l k⟩
instance {k : Int} : OC .from_ k (Tp α) (Tp α) := ⟨fun l => .ok ⟨fromL l.l k⟩, fun l => O2.ok (o := .from_) l k⟩
instance : O2 .to D Int D := ⟨fun x i => op2D .to x (.int i), fun x i => ref_dyn _⟩
instance : O2 .from_ D Int D := ⟨fun x i => op2D .from_ x (.int i), fun x i => ref_dyn _⟩
instance : O2 .min2 Int Int Int := ⟨fun i j => .ok (if j < i then j else i), fun _ _ => rfl⟩
instance : O2 .max2 Int Int Int := ⟨fun i j => .ok (if j > i then j else i), fun _ _ => rfl⟩
instance [NoNone α] : O2 .is_ (Option α) NoneV Bool := ⟨fun x _ => .ok x.isNone, fun x _ => by
  show bl (.ok (isNoneD (em x))) = _
  cases x with
  | none => rfl
  | some a => rw [show isNoneD (em (some a)) = false from (NoNone.h a).2.2]; rfl⟩
instance [NoNone α] : O2 .isNot (Option α) NoneV Bool := ⟨fun x _ => .ok x.isSome, fun x _ => by
  show bl (do let e ← R.ok (isNoneD (em x)); .ok (!e)) = _
  cases x with
  | none => rfl
  | some a => rw [show isNoneD (em (some a)) = false from (NoNone.h a).2.2]; rfl⟩
instance : O2 .is_ D NoneV Bool := ⟨fun x _ => .ok (isNoneD x), fun x _ => rfl⟩
instance : O2 .isNot D NoneV Bool := ⟨fun x _ => .ok (!isNoneD x), fun x _ => rfl⟩
def min3N (i j k : Int) : R Int := .ok (let m := if j < i then j else i; if k < m then k else m)
/-! ### places in lists -/
class Ix (α β : Type) [Em α] [Em β] where
  f : List α → β → R Int
  ok : ∀ l x, Ref (indexD (l.map em) (em x)) (f l x)
theorem findEq_em [EmE α] [DecidableEq α] (x : α) : ∀ (l : List α) (k : Nat), x ∈ l → findEq (em x) k (l.map em) = some (k + l.findIdx fun y => decide (y = x))
  | [], _, h => by cases h
  | y :: l, k, h => by
    rw [List.map_cons, List.findIdx_cons]
    unfold findEq
    rw [eqv_em]
    by_cases e : y = x
    · rw [decide_eq_true e, if_pos rfl]
      rfl
    · rw [decide_eq_false e, if_neg Bool.false_ne_true, findEq_em x l (k + 1) ((List.mem_cons.mp h).resolve_left fun z => e z.symm)]
      simp
      omega
instance [EmE α] [Shp α] [Shp (List α)] [DecidableEq α] : Ix α α := ⟨fun l x => if x ∈ l then .ok (l.findIdx fun y => decide (y = x) : Nat) else .bad, fun l x => by
  split
  · rename_i h
    unfold indexD
    rw [shaped_em, show SeqAt.shaped (.list (l.map em)) = true from shaped_em l, findEq_em x l 0 h]
    show R.ok (PyData.int _) = R.ok (PyData.int _)
    simp
  · exact trivial⟩
instance : Ix D D := ⟨fun l x => intOf (indexD l x), fun l x => by
  show RefW _ (indexD (l.map id) x) _
  rw [List.map_id]; exact ref_intOf _⟩
/-! ### walks over things -/
class SeqN (α : Type) (β : outParam Type) [Em α] [Em β] where
  f : α → R (List β)
  ok : ∀ x, RefW (fun l => l.map em) (seqD (em x)) (f x)
instance : SeqN (List α) α := ⟨fun l => .ok l, fun _ => rfl⟩
instance : SeqN (Tp α) α := ⟨fun l => .ok l.l, fun _ => rfl⟩
instance : SeqN (α × α) α := ⟨fun l => .ok [l.1, l.2], fun _ => rfl⟩
instance : SeqN (T3 α α α) α := ⟨fun l => .ok [l.a, l.b, l.c], fun _ => rfl⟩
instance : SeqN D D := ⟨fun x => seqD x, fun x => by
  show RefW _ (seqD x) (seqD x)
  cases seqD x with
  | ok l => show R.ok l = R.ok (l.map id); rw [List.map_id]
  | ex c => exact rfl
  | bad => exact trivial⟩
/-- things in which no list is -/
class NoL (α : Type) [Em α] : Prop where
  h : ∀ a : α, noList (em a) = true
instance : NoL Int := ⟨fun _ => rfl⟩
instance : NoL Bool := ⟨fun _ => rfl⟩
instance : NoL String := ⟨fun _ => rfl⟩
theorem noLists_em [NoL α] : ∀ l : List α, noLists (l.map em) = true
  | [] => rfl
  | x :: l => by
    show (noList (em x) && noLists (l.map em)) = true
    rw [NoL.h, noLists_em l]; rfl
instance [NoL α] : NoL (Tp α) := ⟨fun t => noLists_em t.l⟩
instance [NoL α] [NoL β] : NoL (α × β) := ⟨fun t => by show (noList (em t.1) && (noList (em t.2) && true)) = true; rw [NoL.h, NoL.h]; rfl⟩
instance [NoL α] : NoL (Option α) := ⟨fun t => match t with
  | none => rfl
  | some a => NoL.h a⟩
end
end SF

/-! Typed meanings of expressions and statements. -/
namespace SF
open SF.Em (em)
open SF.Up (up)
open PySem
section
variable {α β γ δ ε ζ : Type} [Em α] [Em β] [Em γ] [Em δ] [Em ε] [Em ζ] {s s' : Env} {a b c e es : E}
theorem r_var {i : Nat} {x : α} (h : getV s i = .ok (em x)) : Ref (den (.var i) s) (.ok x) := h
theorem r_int (i : Int) : Ref (den (.cst (.int i)) s) (.ok i) := rfl
theorem r_bool (i : Bool) : Ref (den (.cst (.bool i)) s) (.ok i) := rfl
theorem r_none : Ref (den (.cst .none) s) (.ok NoneV.v) := rfl
theorem r_str (x : String) : Ref (den (.cst (.str (Str.ofString x))) s) (.ok x) := rfl
theorem r_glob {n : String} (i : Int) : Ref (den (.glob n (.int i)) s) (.ok i) := rfl
theorem r_globS {n : String} (i : String) : Ref (den (.glob n (.str (Str.ofString i))) s) (.ok i) := rfl
theorem r_op1 {o : Op1} [O1 o α β] {ta : R α} (h : Ref (den a s) ta) : Ref (den (.op1 o a) s) (ta >>= O1.f o) := h.bind fun x => O1.ok x
theorem r_op2 {o : Op2} [O2 o α β γ] {ta : R α} {tb : R β} (h : Ref (den a s) ta) (h' : Ref (den b s) tb) : Ref (den (.op2 o a b) s) (ta >>= fun x => tb >>= fun y => O2.f o x y) := h.bind fun x => h'.bind fun y => O2.ok x y
theorem r_opc {o : Op2} {k : Int} [OC o k α γ] {ta : R α} (h : Ref (den a s) ta) : Ref (den (.op2 o a (.cst (.int k))) s) (ta >>= OC.f o k) := h.bind fun x => OC.ok (k := k) x
theorem r_min3 {ta tb tc : R Int} (h : Ref (den a s) ta) (h' : Ref (den b s) tb) (h'' : Ref (den c s) tc) : Ref (den (.op3 .min3 a b c) s) (ta >>= fun x => tb >>= fun y => tc >>= fun z => min3N x y z) := h.bind fun x => h'.bind fun y => h''.bind fun z => rfl
theorem boolW {d : R D} {t : R Bool} (h : Ref d t) : RefW id (boolOf d) t := by
  cases t with
  | ok x => rw [show d = .ok (em x) from h]; exact rfl
  | ex x => rw [show d = .ex x from h]; exact rfl
  | bad => exact trivial
theorem truthW {d : R D} {t : R Bool} (h : Ref d t) : RefW id (d >>= truthy) t := by
  cases t with
  | ok x => rw [show d = .ok (em x) from h]; exact rfl
  | ex x => rw [show d = .ex x from h]; exact rfl
  | bad => exact trivial
theorem r_chain {o o' : Op2} [O2 o α β Bool] [O2 o' β γ Bool] {ta : R α} {tb : R β} {tc : R γ} (h : Ref (den a s) ta) (h' : Ref (den b s) tb) (h'' : Ref (den c s) tc) :
    Ref (den (.chain o o' a b c) s) (ta >>= fun x => tb >>= fun y => O2.f o x y >>= fun k => if k then tc >>= fun z => O2.f o' y z else .ok false) :=
  h.bind fun x => h'.bind fun y => (boolW (O2.ok x y)).bind fun k => by
    cases k with
    | false => exact rfl
    | true => exact h''.bind fun z => O2.ok y z
theorem r_and {ta tb : R Bool} (h : Ref (den a s) ta) (h' : Ref (den b s) tb) : Ref (den (.andE a b) s) (ta >>= fun k => if k then tb else .ok false) := (boolW h).bind fun k => by
    cases k with
    | false => exact rfl
    | true => exact h'
theorem r_or {ta tb : R Bool} (h : Ref (den a s) ta) (h' : Ref (den b s) tb) : Ref (den (.orE a b) s) (ta >>= fun k => if k then .ok true else tb) := (boolW h).bind fun k => by
    cases k with
    | true => exact rfl
    | false => exact h'
theorem r_one {ta : R α} (h : Ref (den a s) ta) : Ref (den (.oneE a) s) ta := h
theorem r_not {ta : R Bool} (h : Ref (den a s) ta) : Ref (den (.notE a) s) (ta >>= fun k => .ok (!k)) := (boolW h).bind fun k => rfl
theorem r_ite {tc : R Bool} {ta tb : R α} (h : Ref (den c s) tc) (h' : Ref (den a s) ta) (h'' : Ref (den b s) tb) : Ref (den (.ite c a b) s) (tc >>= fun k => if k then ta else tb) := by
  show Ref (do let x ← den c s; let k ← truthy x; if k then den a s else den b s) _
  cases tc with
  | ok k =>
    rw [show den c s = .ok (em k) from h]
    cases k with
    | true => exact h'
    | false => exact h''
  | ex x => rw [show den c s = .ex x from h]; exact rfl
  | bad => exact trivial
/-- rows of expressions -/
abbrev RefEs (d : R D) (t : R (List α)) : Prop := RefW (fun l => PyData.tuple (l.map em)) d t
theorem tupleW {X : Type} {f : X → List D} {d : R D} {t : R X} (h : RefW (fun l => PyData.tuple (f l)) d t) : RefW f (tupleOf d) t := by
  cases t with
  | ok x => rw [show d = .ok (.tuple _) from h]; exact rfl
  | ex x => rw [show d = .ex x from h]; exact rfl
  | bad => exact trivial
theorem r_nil : RefEs (α := α) (den .nil s) (.ok []) := rfl
theorem r_cons {ta : R α} {te : R (List α)} (h : Ref (den e s) ta) (h' : RefEs (den es s) te) : RefEs (den (.cons e es) s) (ta >>= fun x => te >>= fun l => .ok (x :: l)) :=
  h.bind fun x => (tupleW h').bind fun l => rfl
theorem r_lst {te : R (List α)} (h : RefEs (den es s) te) : Ref (den (.lst es) s) te := (tupleW h).mapL fun l => rfl
theorem r_tupl {te : R (List α)} (h : RefEs (den es s) te) : Ref (den (.tup es) s) (te >>= fun l => .ok (Tp.mk l)) := (tupleW h).bind fun l => rfl
theorem r_lst0 : Ref (den (.lst .nil) s) (.ok NilL.v) := rfl
theorem r_tup0 : Ref (den (.tup .nil) s) (.ok NilT.v) := rfl
abbrev RefA {X : Type} (f : X → List D) (d : R D) (t : R X) : Prop := RefW (fun x => PyData.tuple (f x)) d t
theorem r_a1 {ta : R α} (h : Ref (den a s) ta) : RefA (fun x : α => [em x]) (den (.cons a .nil) s) ta := h.mapL fun x => rfl
theorem r_a2 {ta : R α} {tb : R β} (h : Ref (den a s) ta) (h' : Ref (den b s) tb) : RefA (fun x : α × β => [em x.1, em x.2]) (den (.cons a (.cons b .nil)) s) (ta >>= fun x => tb >>= fun y => .ok (x, y)) :=
  h.bind fun x => (tupleW (r_a1 h')).bind fun y => rfl
theorem r_a3 {ta : R α} {tb : R β} {tc : R γ} (h : Ref (den a s) ta) (h' : Ref (den b s) tb) (h'' : Ref (den c s) tc) : RefA (fun x : T3 α β γ => [em x.a, em x.b, em x.c]) (den (.cons a (.cons b (.cons c .nil))) s) (ta >>= fun x => tb >>= fun y => tc >>= fun z => .ok ⟨x, y, z⟩) :=
  h.bind fun x => by
    show RefW _ (do let ds ← tupleOf (den (.cons b (.cons c .nil)) s); R.ok (PyData.tuple (em x :: ds))) _
    cases tb with
    | ok y => cases tc with
      | ok z => rw [show tupleOf (den (.cons b (.cons c .nil)) s) = .ok [em y, em z] from tupleW (r_a2 h' h'')]; exact rfl
      | ex k => rw [show tupleOf (den (.cons b (.cons c .nil)) s) = .ex k from tupleW (r_a2 h' h'')]; exact rfl
      | bad => exact trivial
    | ex k => rw [show tupleOf (den (.cons b (.cons c .nil)) s) = .ex k from tupleW (r_a2 h' h'')]; exact rfl
    | bad => exact trivial
theorem r_a4 {d : E} {ta : R α} {tb : R β} {tc : R γ} {td : R δ} (h : Ref (den a s) ta) (h' : Ref (den b s) tb) (h'' : Ref (den c s) tc) (h4 : Ref (den d s) td) : RefA (fun x : T4 α β γ δ => [em x.a, em x.b, em x.c, em x.e]) (den (.cons a (.cons b (.cons c (.cons d .nil)))) s) (ta >>= fun x => tb >>= fun y => tc >>= fun z => td >>= fun w => .ok ⟨x, y, z, w⟩) :=
  h.bind fun x => by
    show RefW _ (do let ds ← tupleOf (den (.cons b (.cons c (.cons d .nil))) s); R.ok (PyData.tuple (em x :: ds))) _
    have hh := tupleW (r_a3 h' h'' h4)
    revert hh
    generalize tupleOf (den (.cons b (.cons c (.cons d .nil))) s) = r
    intro hh
    cases tb with
    | ok y => cases tc with
      | ok z => cases td with
        | ok w => rw [show r = .ok [em y, em z, em w] from hh]; exact rfl
        | ex k => rw [show r = .ex k from hh]; exact rfl
        | bad => exact trivial
      | ex k => rw [show r = .ex k from hh]; exact rfl
      | bad => exact trivial
    | ex k => rw [show r = .ex k from hh]; exact rfl
    | bad => exact trivial
theorem r_tup2 {ta : R α} {tb : R β} (h : Ref (den a s) ta) (h' : Ref (den b s) tb) : Ref (den (.tup (.cons a (.cons b .nil))) s) (ta >>= fun x => tb >>= fun y => .ok (x, y)) := (tupleW (r_a2 h h')).mapL fun l => rfl
theorem r_tup3 {ta : R α} {tb : R β} {tc : R γ} (h : Ref (den a s) ta) (h' : Ref (den b s) tb) (h'' : Ref (den c s) tc) : Ref (den (.tup (.cons a (.cons b (.cons c .nil)))) s) (ta >>= fun x => tb >>= fun y => tc >>= fun z => .ok (T3.mk x y z)) := (tupleW (r_a3 h h' h'')).mapL fun l => rfl
theorem r_tup4 {d : E} {ta : R α} {tb : R β} {tc : R γ} {td : R δ} (h : Ref (den a s) ta) (h' : Ref (den b s) tb) (h'' : Ref (den c s) tc) (h4 : Ref (den d s) td) : Ref (den (.tup (.cons a (.cons b (.cons c (.cons d .nil))))) s) (ta >>= fun x => tb >>= fun y => tc >>= fun z => td >>= fun w => .ok (T4.mk x y z w)) := (tupleW (r_a4 h h' h'' h4)).mapL fun l => rfl
/-! ### calls -/
variable {f : String} {g : Fn}
theorem r_call0 {n : R α} (hg : Ref (g []) n) : Ref (den (.call f g .nil) s) n := hg
theorem r_call1 {ta : R α} {n : α → R β} (hg : ∀ x, Ref (g [em x]) (n x)) (h : Ref (den a s) ta) : Ref (den (.call f g (.cons a .nil)) s) (ta >>= n) := (tupleW (r_a1 h)).bind fun x => hg x
theorem bind2 {X : Type} {ta : R α} {tb : R β} {k : α × β → R X} : ((ta >>= fun x => tb >>= fun y => .ok (x, y)) >>= k) = (ta >>= fun x => tb >>= fun y => k (x, y)) := by cases ta <;> cases tb <;> rfl
theorem bind3 {X : Type} {ta : R α} {tb : R β} {tc : R γ} {k : T3 α β γ → R X} : ((ta >>= fun x => tb >>= fun y => tc >>= fun z => .ok ⟨x, y, z⟩) >>= k) = (ta >>= fun x => tb >>= fun y => tc >>= fun z => k ⟨x, y, z⟩) := by cases ta <;> cases tb <;> cases tc <;> rfl
theorem bind4 {X : Type} {ta : R α} {tb : R β} {tc : R γ} {td : R δ} {k : T4 α β γ δ → R X} : ((ta >>= fun x => tb >>= fun y => tc >>= fun z => td >>= fun w => .ok ⟨x, y, z, w⟩) >>= k) = (ta >>= fun x => tb >>= fun y => tc >>= fun z => td >>= fun w => k ⟨x, y, z, w⟩) := by cases ta <;> cases tb <;> cases tc <;> cases td <;> rfl
theorem r_call2 {ta : R α} {tb : R β} {n : α → β → R γ} (hg : ∀ x y, Ref (g [em x, em y]) (n x y)) (h : Ref (den a s) ta) (h' : Ref (den b s) tb) : Ref (den (.call f g (.cons a (.cons b .nil))) s) (ta >>= fun x => tb >>= fun y => n x y) := by
  rw [← bind2 (k := fun p => n p.1 p.2)]
  exact (tupleW (r_a2 h h')).bind fun p => hg p.1 p.2
theorem r_call3 {ta : R α} {tb : R β} {tc : R γ} {n : α → β → γ → R δ} (hg : ∀ x y z, Ref (g [em x, em y, em z]) (n x y z)) (h : Ref (den a s) ta) (h' : Ref (den b s) tb) (h'' : Ref (den c s) tc) : Ref (den (.call f g (.cons a (.cons b (.cons c .nil)))) s) (ta >>= fun x => tb >>= fun y => tc >>= fun z => n x y z) := by
  rw [← bind3 (k := fun p => n p.a p.b p.c)]
  exact (tupleW (r_a3 h h' h'')).bind fun p => hg p.a p.b p.c
theorem r_call4 {d : E} {ta : R α} {tb : R β} {tc : R γ} {td : R δ} {n : α → β → γ → δ → R ε} (hg : ∀ x y z w, Ref (g [em x, em y, em z, em w]) (n x y z w)) (h : Ref (den a s) ta) (h' : Ref (den b s) tb) (h'' : Ref (den c s) tc) (h4 : Ref (den d s) td) : Ref (den (.call f g (.cons a (.cons b (.cons c (.cons d .nil))))) s) (ta >>= fun x => tb >>= fun y => tc >>= fun z => td >>= fun w => n x y z w) := by
  rw [← bind4 (k := fun p => n p.a p.b p.c p.e)]
  exact (tupleW (r_a4 h h' h'' h4)).bind fun p => hg p.a p.b p.c p.e
theorem r_aS {X : Type} {fx : X → List D} {ta : R α} {tx : R X} (h : Ref (den a s) ta) (h' : RefA fx (den es s) tx) : RefA (fun p : α × X => em p.1 :: fx p.2) (den (.cons a es) s) (ta >>= fun x => tx >>= fun y => .ok (x, y)) := h.bind fun x => (tupleW h').bind fun y => rfl
theorem bindS {X Y : Type} {ta : R α} {tx : R X} {k : α × X → R Y} : ((ta >>= fun x => tx >>= fun y => .ok (x, y)) >>= k) = (ta >>= fun x => tx >>= fun y => k (x, y)) := by cases ta <;> cases tx <;> rfl
theorem r_call5 {d e' : E} {ta : R α} {tb : R β} {tc : R γ} {td : R δ} {te : R ε} {n : α → β → γ → δ → ε → R ζ} (hg : ∀ x y z w v, Ref (g [em x, em y, em z, em w, em v]) (n x y z w v)) (h : Ref (den a s) ta) (h' : Ref (den b s) tb) (h'' : Ref (den c s) tc) (h4 : Ref (den d s) td) (h5 : Ref (den e' s) te) : Ref (den (.call f g (.cons a (.cons b (.cons c (.cons d (.cons e' .nil)))))) s) (ta >>= fun x => tb >>= fun y => tc >>= fun z => td >>= fun w => te >>= fun v => n x y z w v) := by
  have e1 : (ta >>= fun x => tb >>= fun y => tc >>= fun z => td >>= fun w => te >>= fun v => n x y z w v) = ((ta >>= fun x => (tb >>= fun y => tc >>= fun z => td >>= fun w => te >>= fun v => .ok (y, T3.mk z w v)) >>= fun y => .ok (x, y)) >>= fun p => n p.1 p.2.1 p.2.2.a p.2.2.b p.2.2.c) := by
    cases ta <;> cases tb <;> cases tc <;> cases td <;> cases te <;> rfl
  rw [e1]
  refine (tupleW (r_aS h (tx := tb >>= fun y => tc >>= fun z => td >>= fun w => te >>= fun v => .ok (y, T3.mk z w v)) (fx := fun p => [em p.1, em p.2.a, em p.2.b, em p.2.c]) ?_)).bind fun p => hg _ _ _ _ _
  have e2 : (tb >>= fun y => tc >>= fun z => td >>= fun w => te >>= fun v => R.ok (y, T3.mk z w v)) = (tb >>= fun y => (tc >>= fun z => td >>= fun w => te >>= fun v => .ok (T3.mk z w v)) >>= fun q => .ok (y, q)) := by
    cases tb <;> cases tc <;> cases td <;> cases te <;> rfl
  rw [e2]
  exact r_aS h' (r_a3 h'' h4 h5)
theorem bind_congr5 {X : Type} {ta : R α} {k k' : α → R X} (h : ∀ x, k x = k' x) : (ta >>= k) = (ta >>= k') := by cases ta <;> first | exact h _ | rfl
theorem r_call6 {d e' e6 : E} {η : Type} [Em η] {ta : R α} {tb : R β} {tc : R γ} {td : R δ} {te : R ε} {tf : R ζ} {n : α → β → γ → δ → ε → ζ → R η} (hg : ∀ x y z w v u, Ref (g [em x, em y, em z, em w, em v, em u]) (n x y z w v u)) (h : Ref (den a s) ta) (h' : Ref (den b s) tb) (h'' : Ref (den c s) tc) (h4 : Ref (den d s) td) (h5 : Ref (den e' s) te) (h6 : Ref (den e6 s) tf) : Ref (den (.call f g (.cons a (.cons b (.cons c (.cons d (.cons e' (.cons e6 .nil))))))) s) (ta >>= fun x => tb >>= fun y => tc >>= fun z => td >>= fun w => te >>= fun v => tf >>= fun u => n x y z w v u) := by
  have e1 : (ta >>= fun x => tb >>= fun y => tc >>= fun z => td >>= fun w => te >>= fun v => tf >>= fun u => n x y z w v u) = ((ta >>= fun x => (tb >>= fun y => (tc >>= fun z => td >>= fun w => te >>= fun v => tf >>= fun u => .ok (T4.mk z w v u)) >>= fun q => .ok (y, q)) >>= fun y => .ok (x, y)) >>= fun p => n p.1 p.2.1 p.2.2.a p.2.2.b p.2.2.c p.2.2.e) := by
    cases ta <;> cases tb <;> cases tc <;> cases td <;> cases te <;> cases tf <;> rfl
  rw [e1]
  exact (tupleW (r_aS h (r_aS h' (r_a4 h'' h4 h5 h6)))).bind fun p => hg _ _ _ _ _ _
theorem r_flat [NoL α] {ta : R α} (h : Ref (den a s) ta) : Ref (den (.flat a) s) ta := h.mapL fun x => by rw [NoL.h]; rfl
theorem r_index [Ix α β] {ta : R (List α)} {tb : R β} (h : Ref (den a s) ta) (h' : Ref (den b s) tb) : Ref (den (.index a b) s) (ta >>= fun l => tb >>= fun x => Ix.f l x) := by
  have hl : RefW (fun l : List α => l.map em) (listOf (den a s)) ta := by
    cases ta with
    | ok x => rw [show den a s = .ok (em x) from h]; exact rfl
    | ex x => rw [show den a s = .ex x from h]; exact rfl
    | bad => exact trivial
  exact hl.bind fun l => h'.bind fun x => Ix.ok l x
/-! ### slices with both ends -/
class Sl (α : Type) [Em α] where
  f : α → Int → Int → R α
  ok : ∀ x i j, Ref (sliceO (em x) i (.int j)) (f x i j)
instance : Sl (List α) := ⟨fun x i j => .ok (sliceL x i j), fun x i j => by show R.ok (PyData.list (sliceL (x.map em) i j)) = _; rw [sliceL_map]; rfl⟩
instance : Sl (Tp α) := ⟨fun x i j => .ok ⟨sliceL x.l i j⟩, fun x i j => by show R.ok (PyData.tuple (sliceL (x.l.map em) i j)) = _; rw [sliceL_map]; rfl⟩
instance : Sl D := ⟨fun x i j => sliceO x i (.int j), fun x i j => ref_dyn _⟩
theorem intW {d : R D} {t : R Int} (h : Ref d t) : RefW id (intOf d) t := by
  cases t with
  | ok x => rw [show d = .ok (em x) from h]; exact rfl
  | ex x => rw [show d = .ex x from h]; exact rfl
  | bad => exact trivial
theorem r_slice [Sl α] {ta : R α} {tb tc : R Int} (h : Ref (den a s) ta) (h' : Ref (den b s) tb) (h'' : Ref (den c s) tc) : Ref (den (.slice a b c) s) (ta >>= fun x => tb >>= fun i => tc >>= fun j => Sl.f x i j) :=
  h.bind fun x => (intW h').bind fun i => h''.bind fun j => Sl.ok x i j
/-! ### walks over things -/
theorem r_itSeq [SeqN α β] {ta : R α} (h : Ref (den a s) ta) : Ref (den (.itSeq a) s) (ta >>= SeqN.f) := h.bind fun x => (SeqN.ok x).mapL fun l => rfl
def rangeI (i j : Int) : List Int := (List.range (j - i).toNat).map fun k : Nat => i + (k : Int)
noncomputable def rangeN (i j : Int) : R (List Int) := gd ((small62 i && small62 j && decide (j - i ≤ 1000000)) = true) (.ok (rangeI i j))
theorem rangeD_em (n : Nat) : ∀ i : Int, rangeD i n = ((List.range n).map fun k : Nat => i + (k : Int)).map em := by
  induction n with
  | zero => intro i; rfl
  | succ n ih =>
    intro i
    rw [List.range_succ_eq_map, List.map_cons, List.map_cons, List.map_map, List.map_map]
    show PyData.int i :: rangeD (i + 1) n = _
    rw [ih, List.map_map]
    congr 1
    · simp [em_int]
    · apply List.map_congr_left
      intro k _
      show PyData.int _ = PyData.int _
      congr 1
      simp only [Nat.succ_eq_add_one]
      omega
theorem rngD_em (i j : Int) : Ref (rngD i j) (rangeN i j) := by
  unfold rngD rangeN rangeI
  by_cases c : (small62 i && small62 j && decide (j - i ≤ 1000000)) = true
  · rw [if_pos c, gd_pos c, rangeD_em]; exact rfl
  · rw [if_neg c, gd_neg c]; exact trivial
theorem r_itRange {ta : R Int} (h : Ref (den a s) ta) : Ref (den (.itRange a) s) (ta >>= fun j => rangeN 0 j) := h.bind fun j => rngD_em 0 j
theorem r_itRange2 {ta tb : R Int} (h : Ref (den a s) ta) (h' : Ref (den b s) tb) : Ref (den (.itRange2 a b) s) (ta >>= fun i => tb >>= fun j => rangeN i j) := h.bind fun i => h'.bind fun j => rngD_em i j
def enumN (l : List α) : List (Int × α) := l.zipIdx.map fun p => ((p.2 : Int), p.1)
theorem enumD_em (l : List α) : enumD 0 (l.map em) = (enumN l).map em := by
  have key : ∀ (l : List α) (k : Nat), enumD k (l.map em) = ((l.zipIdx k).map fun p => ((p.2 : Int), p.1)).map em := fun l => by
    induction l with
    | nil => intro k; rfl
    | cons x l ih =>
      intro k
      rw [List.map_cons, List.zipIdx_cons, List.map_cons, List.map_cons, ← ih (k + 1)]
      rfl
  exact key l 0
theorem r_itEnum [SeqN α β] {ta : R α} (h : Ref (den a s) ta) : Ref (den (.itEnum a) s) (ta >>= fun x => SeqN.f x >>= fun l => .ok (enumN l)) := h.bind fun x => (SeqN.ok x).bind fun l => by
  show R.ok (PyData.list (enumD 0 (l.map em))) = _
  rw [enumD_em]; rfl
theorem zipD_em (l : List α) : ∀ m : List β, zipD (l.map em) (m.map em) = (l.zip m).map em := by
  induction l with
  | nil => intro m; simp [zipD]
  | cons x l ih =>
    intro m
    cases m with
    | nil => simp [zipD]
    | cons y m =>
      rw [List.map_cons, List.map_cons, List.zip_cons_cons, List.map_cons, ← ih m]
      rfl
theorem r_itZip [SeqN α γ] [SeqN β δ] {ta : R α} {tb : R β} (h : Ref (den a s) ta) (h' : Ref (den b s) tb) : Ref (den (.itZip a b) s) (ta >>= fun x => tb >>= fun y => SeqN.f x >>= fun l => SeqN.f y >>= fun m => .ok (l.zip m)) :=
  h.bind fun x => h'.bind fun y => (SeqN.ok x).bind fun l => (SeqN.ok y).bind fun m => by
    show R.ok (PyData.list (zipD (l.map em) (m.map em))) = _
    rw [zipD_em]; rfl
end
/-! ### comprehensions -/
section
variable {α β γ : Type} [Em α] [Em β] [Em γ] {s : Env} {it c e : E} {t : T} {vs : List Nat}
def lcN {α β : Type} (l : List α) (c : α → R Bool) (e : α → R β) : R (List β) := match l with
  | [] => .ok []
  | x :: r => match c x with
    | .ok true => (match e x with
      | .ok y => do let ys ← lcN r c e; .ok (y :: ys)
      | _ => .bad)
    | .ok false => lcN r c e
    | _ => .bad
def mapN {α β : Type} (l : List α) (e : α → R β) : R (List β) := match l with
  | [] => .ok []
  | x :: r => match e x with
    | .ok y => do let ys ← mapN r e; .ok (y :: ys)
    | _ => .bad
theorem lcD_ref {F : D → R (Option D)} {fc : α → R Bool} {fe : α → R β} (h1 : ∀ x, fc x = .ok false → F (em x) = .ok none) (h2 : ∀ x y, fc x = .ok true → fe x = .ok y → F (em x) = .ok (some (em y))) : ∀ l : List α, RefW (fun l => l.map em) (lcD F (l.map em)) (lcN l fc fe)
  | [] => rfl
  | x :: l => by
    have ih := lcD_ref h1 h2 l
    rw [List.map_cons]
    unfold lcD lcN
    cases hc : fc x with
    | ok k => cases k with
      | false => rw [h1 x hc]; exact ih
      | true => cases he : fe x with
        | ok y => rw [h2 x y hc he]; exact ih.bind fun m => rfl
        | ex k => exact trivial
        | bad => exact trivial
    | ex k => exact trivial
    | bad => exact trivial
theorem lcN_true {fe : α → R β} : ∀ l, lcN l (fun _ => .ok true) fe = mapN l fe
  | [] => rfl
  | x :: l => by unfold lcN mapN; rw [lcN_true l]
theorem listW {d : R D} {t : R (List α)} (h : Ref d t) : RefW (fun l : List α => l.map em) (listOf d) t := by
  cases t with
  | ok x => rw [show d = .ok (em x) from h]; exact rfl
  | ex x => rw [show d = .ex x from h]; exact rfl
  | bad => exact trivial
theorem r_lc {ti : R (List α)} {fc : α → R Bool} {fe : α → R β} (hi : Ref (den it s) ti) (ev : α → Env) (hb : ∀ x, bindT t (em x) (wipeE s vs) = .ok (ev x)) (hc : ∀ x, Ref (den c (ev x)) (fc x)) (he : ∀ x, Ref (den e (ev x)) (fe x)) :
    Ref (den (.lc vs t it c e) s) (ti >>= fun l => lcN l fc fe) := by
  show Ref (do
    let xs ← listOf (den it s)
    let ys ← lcD (lcF t vs (fun s => do let b ← den c s; truthy b) (den e) s) xs
    .ok (.list ys)) _
  refine (listW hi).bind fun l => (lcD_ref (fun x h => ?_) (fun x y h h' => ?_) l).mapL fun m => rfl
  · show (bindT t (em x) (wipeE s vs) >>= _) = _
    rw [hb, ok_bind]
    have q := hc x
    rw [h] at q
    show ((do let b ← den c (ev x); truthy b) >>= _) = _
    rw [show den c (ev x) = .ok (.bool false) from q]
    rfl
  · show (bindT t (em x) (wipeE s vs) >>= _) = _
    rw [hb, ok_bind]
    have q := hc x
    rw [h] at q
    have q' := he x
    rw [h'] at q'
    show ((do let b ← den c (ev x); truthy b) >>= _) = _
    rw [show den c (ev x) = .ok (.bool true) from q]
    show (den e (ev x) >>= fun y => R.ok (some y)) = _
    rw [show den e (ev x) = .ok (em y) from q']
    rfl
theorem r_lcm {ti : R (List α)} {fe : α → R β} (hi : Ref (den it s) ti) (ev : α → Env) (hb : ∀ x, bindT t (em x) (wipeE s vs) = .ok (ev x)) (he : ∀ x, Ref (den e (ev x)) (fe x)) :
    Ref (den (.lc vs t it (.cst (.bool true)) e) s) (ti >>= fun l => mapN l fe) := by
  rw [show (ti >>= fun l => mapN l fe) = (ti >>= fun l => lcN l (fun _ => .ok true) fe) from congrArg (ti >>= ·) (funext fun l => (lcN_true l).symm)]
  exact r_lc hi ev hb (fun x => rfl) he
end
/-! ### statements -/
inductive Nx (σ ρ : Type) where
  | nx (s : σ)
  | ret (r : ρ)
def nxE {σ ρ τ : Type} (r : Nx σ ρ) (k : σ → R τ) (kr : ρ → τ) : R τ := match r with
  | .nx s => k s
  | .ret a => .ok (kr a)
@[simp] theorem nxE_nx {σ ρ τ : Type} (s : σ) (k : σ → R τ) (kr : ρ → τ) : nxE (.nx s) k kr = k s := rfl
@[simp] theorem nxE_ret {σ ρ τ : Type} (a : ρ) (k : σ → R τ) (kr : ρ → τ) : nxE (.ret a) k kr = .ok (kr a) := rfl
def RG {τ : Type} (o : Out) (t : R τ) (Q : τ → Out → Prop) : Prop := match t with
  | .ok a => Q a o
  | .ex c => o = .ex c
  | .bad => True
abbrev J {τ : Type} (b : S) (s : Env) (F : Env → Out) (t : R τ) (Q : τ → Out → Prop) : Prop := RG (andO (denS b s) F) t Q
/-- a def's end -/
def QT {ρ : Type} [Em ρ] (r : ρ) (o : Out) : Prop := o = .ret (em r)
def QU (_ : Unit) (o : Out) : Prop := o = .ret .none ∨ ∃ s, o = .nx s
/-- a turn's end -/
def QN {σ : Type} (ev : σ → Env → Prop) (st : σ) (o : Out) : Prop := ∃ s', o = .nx s' ∧ ev st s'
def QX {σ ρ : Type} [Em ρ] (ev : σ → Env → Prop) (x : Nx σ ρ) (o : Out) : Prop := match x with
  | .nx st => ∃ s', o = .nx s' ∧ ev st s'
  | .ret r => o = .ret (em r)
def forN {σ α : Type} (l : List α) (s : σ) (f : σ → α → R σ) : R σ := match l with
  | [] => .ok s
  | x :: r => f s x >>= fun s' => forN r s' f
def forX {σ ρ α : Type} (l : List α) (s : σ) (f : σ → α → R (Nx σ ρ)) : R (Nx σ ρ) := match l with
  | [] => .ok (.nx s)
  | x :: r => f s x >>= fun y => match y with
    | .nx s' => forX r s' f
    | .ret a => .ok (.ret a)
def whileN {σ : Type} (n : Nat) (s : σ) (c : σ → R Bool) (f : σ → R σ) : R σ := match n with
  | 0 => .bad
  | n + 1 => c s >>= fun k => if k then f s >>= fun s' => whileN n s' c f else .ok s
def whileX {σ ρ : Type} (n : Nat) (s : σ) (c : σ → R Bool) (f : σ → R (Nx σ ρ)) : R (Nx σ ρ) := match n with
  | 0 => .bad
  | n + 1 => c s >>= fun k => if k then f s >>= fun y => (match y with
    | .nx s' => whileX n s' c f
    | .ret a => .ok (.ret a)) else .ok (.nx s)
section
variable {α β γ τ σ ρ : Type} [Em α] [Em β] [Em γ] [Em ρ] {s : Env} {F : Env → Out} {Q : τ → Out → Prop} {a b c : S} {e e' it : E} {i : Nat}
theorem andO_assoc (o : Out) (f g : Env → Out) : andO (andO o f) g = andO o fun s => andO (f s) g := by cases o <;> rfl
theorem j_seq {t : R τ} (h : J a s (fun s' => andO (denS b s') F) t Q) : J (.seq a b) s F t Q := by
  unfold J
  rw [show denS (.seq a b) s = andO (denS a s) (denS b) from rfl, andO_assoc]
  exact h
theorem j_skip {t : R τ} (h : RG (F s) t Q) : J .skip s F t Q := h
theorem j_frz {is : List Nat} {t : R τ} (h : J b s F t Q) : J (.frz is b) s F t Q := h
/-- a step with a value, and what follows -/
theorem rg_out {X : Type} {em' : α → X} {d : R X} {ta : R α} {f : X → Out} {k : α → R τ} (h : RefW em' d ta) (hk : ∀ x, RG (andO (f (em' x)) F) (k x) Q) : RG (andO (out d f) F) (ta >>= k) Q := by
  cases ta with
  | ok x => rw [show d = .ok (em' x) from h]; exact hk x
  | ex c => rw [show d = .ex c from h]; exact rfl
  | bad => exact trivial
theorem j_set {ta : R α} {k : α → R τ} (h : Ref (den e s) ta) (hk : ∀ x, RG (F (s.set i (some (em x)))) (k x) Q) : J (.set i e) s F (ta >>= k) Q := rg_out h hk
theorem j_setO {ta : R (List α)} {k : List α → R τ} (h : Ref (den e s) ta) (hk : ∀ x, RG (F (s.set i (some (em x)))) (k x) Q) : J (.setO i e) s F (ta >>= k) Q := rg_out (listW h) hk
class Un2 (α : Type) (β γ : outParam Type) [Em α] [Em β] [Em γ] where
  f : α → Option (β × γ)
  ok : ∀ x p, f x = some p → em x = em p
class Un3 (α : Type) (β γ δ : outParam Type) [Em α] [Em β] [Em γ] [Em δ] where
  f : α → Option (T3 β γ δ)
  ok : ∀ x p, f x = some p → em x = em p
instance : Un2 (α × β) α β := ⟨fun x => some x, fun x p h => by cases h; rfl⟩
instance : Un3 (T3 α β γ) α β γ := ⟨fun x => some x, fun x p h => by cases h; rfl⟩
def un2T (x : Tp α) : Option (α × α) := match x.l with | [a, b] => some (a, b) | _ => none
instance : Un2 (Tp α) α α := ⟨un2T, fun x p h => by
  unfold un2T at h
  split at h
  · rename_i a b hl
    cases h
    show PyData.tuple (x.l.map em) = _
    rw [hl]; rfl
  · cases h⟩
def un2D (x : D) : Option (D × D) := match x with | .tuple [a, b] => some (a, b) | _ => none
def un3D (x : D) : Option (T3 D D D) := match x with | .tuple [a, b, c] => some ⟨a, b, c⟩ | _ => none
instance : Un2 D D D := ⟨un2D, fun x p h => by unfold un2D at h; split at h <;> cases h; rfl⟩
instance : Un3 D D D D := ⟨un3D, fun x p h => by unfold un3D at h; split at h <;> cases h; rfl⟩
def oR {X : Type} (o : Option X) : R X := match o with
  | some x => .ok x
  | none => .bad
@[simp] theorem oR_some {X : Type} (x : X) : oR (some x) = .ok x := rfl
theorem j_setT2 {i j : Nat} [Un2 α β γ] {ta : R α} {k : β × γ → R τ} (h : Ref (den e s) ta) (hk : ∀ x : β × γ, RG (F ((s.set i (some (em x.1))).set j (some (em x.2)))) (k x) Q) : J (.setT [i, j] e) s F (ta >>= fun x => oR (Un2.f x) >>= k) Q := by
  refine rg_out h fun x => ?_
  cases hu : Un2.f x with
  | some p => rw [Un2.ok x p hu]; exact hk p
  | none => exact trivial
theorem j_setT3 {δ : Type} [Em δ] {i j l : Nat} [Un3 α β γ δ] {ta : R α} {k : T3 β γ δ → R τ} (h : Ref (den e s) ta) (hk : ∀ x : T3 β γ δ, RG (F (((s.set i (some (em x.a))).set j (some (em x.b))).set l (some (em x.c)))) (k x) Q) : J (.setT [i, j, l] e) s F (ta >>= fun x => oR (Un3.f x) >>= k) Q := by
  refine rg_out h fun x => ?_
  cases hu : Un3.f x with
  | some p => rw [Un3.ok x p hu]; exact hk p
  | none => exact trivial
noncomputable def appN (l : List α) (x : α) : R (List α) := gd (l.length < 1000000) (.ok (l ++ [x]))
noncomputable def extN (l m : List α) : R (List α) := gd (l.length + m.length ≤ 1000000) (.ok (l ++ m))
noncomputable def insN (l : List α) (k : Int) (x : α) : R (List α) := gd (l.length < 1000000 ∧ (decide (0 ≤ k) && decide (k ≤ 1000000)) = true) (.ok (l.take k.toNat ++ [x] ++ l.drop k.toNat))
def putN (l : List α) (i : Int) (x : α) : R (List α) := match placeD l.length i with
  | some j => .ok (l.set j x)
  | none => .bad
theorem out_okN {X : Type} (x : X) (f : X → Out) : out (.ok x) f = f x := rfl
theorem ref_get {d : R D} {t : R (Option α)} (h : Ref d t) : Ref d (t >>= oR) := by
  cases t with
  | ok o => cases o with
    | some a => exact h
    | none => exact trivial
  | ex c => exact h
  | bad => exact trivial
theorem listAt_em {l : List α} (h : getV s i = .ok (em l)) : listAt s i = .ok (l.map em) := by unfold listAt; rw [h]; rfl
theorem j_app {l : List α} {ta : R α} {k : List α → R τ} (hl : getV s i = .ok (em l)) (h : Ref (den e s) ta) (hk : ∀ x : List α, RG (F (s.set i (some (em x)))) (k x) Q) : J (.app i e) s F (ta >>= fun x => appN l x >>= k) Q := by
  show RG (andO (out (listAt s i) _) F) _ _
  rw [listAt_em hl, out_okN]
  refine rg_out h fun x => ?_
  show RG (andO (if (l.map em).length < 1000000 then _ else _) F) (appN l x >>= k) Q
  unfold appN
  rw [List.length_map]
  by_cases c : l.length < 1000000
  · rw [if_pos c, gd_pos c]
    have := hk (l ++ [x])
    rw [em_list, List.map_append] at this
    exact this
  · rw [if_neg c, gd_neg c]; exact trivial
theorem j_ext {l : List α} {ta : R (List α)} {k : List α → R τ} (hl : getV s i = .ok (em l)) (h : Ref (den e s) ta) (hk : ∀ x : List α, RG (F (s.set i (some (em x)))) (k x) Q) : J (.ext i e) s F (ta >>= fun x => extN l x >>= k) Q := by
  show RG (andO (out (listAt s i) _) F) _ _
  rw [listAt_em hl, out_okN]
  refine rg_out (listW h) fun x => ?_
  show RG (andO (if (l.map em).length + (x.map em).length ≤ 1000000 then _ else _) F) (extN l x >>= k) Q
  unfold extN
  rw [List.length_map, List.length_map]
  by_cases c : l.length + x.length ≤ 1000000
  · rw [if_pos c, gd_pos c]
    have := hk (l ++ x)
    rw [em_list, List.map_append] at this
    exact this
  · rw [if_neg c, gd_neg c]; exact trivial
theorem j_ins {l : List α} {ti : R Int} {ta : R α} {k : List α → R τ} (hl : getV s i = .ok (em l)) (hi : Ref (den e' s) ti) (h : Ref (den e s) ta) (hk : ∀ x : List α, RG (F (s.set i (some (em x)))) (k x) Q) : J (.ins i e' e) s F (ti >>= fun j => ta >>= fun x => insN l j x >>= k) Q := by
  show RG (andO (out (listAt s i) _) F) _ _
  rw [listAt_em hl, out_okN]
  refine rg_out (intW hi) fun j => rg_out h fun x => ?_
  show RG (andO (if (l.map em).length < 1000000 then out (insertD (l.map em) j (em x)) _ else _) F) (insN l j x >>= k) Q
  unfold insN insertD
  rw [List.length_map]
  by_cases c : l.length < 1000000
  · rw [if_pos c]
    show RG (andO (out (if (decide (0 ≤ j) && decide (j ≤ 1000000)) = true then _ else _) _) F) _ _
    by_cases c2 : (decide (0 ≤ j) && decide (j ≤ 1000000)) = true
    · rw [if_pos c2, gd_pos ⟨c, c2⟩]
      have := hk (l.take j.toNat ++ [x] ++ l.drop j.toNat)
      rw [em_list, List.map_append, List.map_append, List.map_take, List.map_drop] at this
      exact this
    · rw [if_neg c2, gd_neg (fun z => c2 z.2)]; exact trivial
  · rw [if_neg c, gd_neg (fun z => c z.1)]; exact trivial
theorem j_put {l : List α} {ti : R Int} {ta : R α} {k : List α → R τ} (hl : getV s i = .ok (em l)) (hi : Ref (den e' s) ti) (h : Ref (den e s) ta) (hk : ∀ x : List α, RG (F (s.set i (some (em x)))) (k x) Q) : J (.put i e' e) s F (ta >>= fun x => ti >>= fun j => putN l j x >>= k) Q := by
  refine rg_out h fun x => ?_
  show RG (andO (out (listAt s i) _) F) _ _
  rw [listAt_em hl, out_okN]
  refine rg_out (intW hi) fun j => ?_
  unfold putN
  show RG (andO (match placeD (l.map em).length j with
      | some j => Out.nx (s.set i (some (.list ((l.map em).set j (em x)))))
      | none => Out.bad) F) _ _
  rw [List.length_map]
  cases hj : placeD l.length j with
  | some m =>
    have := hk (l.set m x)
    rw [em_list, List.map_set] at this
    exact this
  | none => exact trivial
theorem j_exp {ta : R α} {k : R τ} (h : Ref (den e s) ta) (hk : RG (F s) k Q) : J (.exp e) s F (ta >>= fun _ => k) Q := rg_out h fun x => hk
theorem j_ret {ta : R ρ} {k : ρ → τ} (h : Ref (den e s) ta) (hq : ∀ r, Q (k r) (.ret (em r))) : J (.ret e) s F (ta >>= fun r => .ok (k r)) Q := rg_out (f := .ret) h fun r => hq r
theorem j_env {s' : Env} {t : R τ} (h : s = s') (hj : J a s' F t Q) : J a s F t Q := h ▸ hj
theorem rg_env {s' : Env} {t : R τ} (h : s = s') (hj : RG (F s') t Q) : RG (F s) t Q := h ▸ hj
theorem j_retT {ta : R ρ} (h : Ref (den e s) ta) : J (.ret e) s F ta QT := by
  show RG (andO (out (den e s) .ret) F) ta QT
  cases ta with
  | ok x => rw [show den e s = .ok (em x) from h]; exact rfl
  | ex c => rw [show den e s = .ex c from h]; exact rfl
  | bad => exact trivial
theorem r_opt {o : Option α} (h : s.getD i none = o.map em) : Ref (den (.var i) s) (oR o) := by
  show RefW _ (getV s i) _
  unfold getV
  rw [h]
  cases o <;> first | exact rfl | exact trivial
theorem j_raise {x : String} {n : Nat} : J (.raise x n) s F (.ex n : R τ) Q := rfl
theorem truthO {d : R D} {t : R Bool} (h : Ref d t) : RefW id (do let x ← d; truthy x) t := truthW h
theorem j_if {tc : R Bool} {ta tb : R τ} (h : Ref (den e s) tc) (ha : J a s F ta Q) (hb : J b s F tb Q) : J (.ifS e a b) s F (tc >>= fun k => if k then ta else tb) Q := rg_out (truthO h) fun k => by
  cases k with
  | true => exact ha
  | false => exact hb
theorem rg_bind {ev : σ → Env → Prop} {o : Out} {t : R σ} {k : σ → R τ} (h : RG o t (QN ev)) (hk : ∀ st s', ev st s' → RG (F s') (k st) Q) : RG (andO o F) (t >>= k) Q := by
  cases t with
  | ok st => obtain ⟨s', h1, h2⟩ := h; rw [h1]; exact hk st s' h2
  | ex c => rw [show o = .ex c from h]; exact rfl
  | bad => exact trivial
theorem rg_bindX {ev : σ → Env → Prop} {o : Out} {t : R (Nx σ ρ)} {k : σ → R τ} {kr : ρ → τ} (h : RG o t (QX ev)) (hr : ∀ r, Q (kr r) (.ret (em r))) (hk : ∀ st s', ev st s' → RG (F s') (k st) Q) : RG (andO o F) (t >>= fun r => nxE r k kr) Q := by
  cases t with
  | ok x => cases x with
    | nx st => obtain ⟨s', h1, h2⟩ := h; rw [h1]; exact hk st s' h2
    | ret r => rw [show o = .ret (em r) from h]; exact hr r
  | ex c => rw [show o = .ex c from h]; exact rfl
  | bad => exact trivial
theorem j_ifj {ev : σ → Env → Prop} {tc : R Bool} {ta tb : R σ} {k : σ → R τ} (h : Ref (den e s) tc) (ha : J a s .nx ta (QN ev)) (hb : J b s .nx tb (QN ev)) (hk : ∀ st s', ev st s' → RG (F s') (k st) Q) : J (.ifS e a b) s F ((tc >>= fun k => if k then ta else tb) >>= k) Q :=
  rg_bind (by
    have := j_if (F := .nx) h ha hb
    unfold J at this
    have e1 : ∀ o : Out, andO o .nx = o := fun o => by cases o <;> rfl
    rw [e1] at this
    exact this) hk
theorem andO_nx' (o : Out) : andO o .nx = o := by cases o <;> rfl
theorem rg_for {ev : σ → Env → Prop} {G : D → Env → Out} {f : σ → α → R σ} (hs : ∀ x st s', ev st s' → RG (G (em x) s') (f st x) (QN ev)) : ∀ (l : List α) (st : σ) (s' : Env), ev st s' → RG (forD G (l.map em) s') (forN l st f) (QN ev)
  | [], st, s', h => ⟨s', rfl, h⟩
  | x :: l, st, s', h => rg_bind (hs x st s' h) fun st' s'' h' => rg_for hs l st' s'' h'
theorem rg_forX {ev : σ → Env → Prop} {G : D → Env → Out} {f : σ → α → R (Nx σ ρ)} (hs : ∀ x st s', ev st s' → RG (G (em x) s') (f st x) (QX ev)) : ∀ (l : List α) (st : σ) (s' : Env), ev st s' → RG (forD G (l.map em) s') (forX l st f) (QX ev)
  | [], st, s', h => ⟨s', rfl, h⟩
  | x :: l, st, s', h => by
    have h1 := hs x st s' h
    show RG (andO (G (em x) s') _) (f st x >>= _) _
    cases hf : f st x with
    | ok y => cases y with
      | nx st' =>
        rw [hf] at h1
        obtain ⟨s'', h2, h3⟩ := h1
        rw [h2]
        exact rg_forX hs l st' s'' h3
      | ret r => rw [hf] at h1; rw [show G (em x) s' = .ret (em r) from h1]; exact rfl
    | ex c => rw [hf] at h1; rw [show G (em x) s' = .ex c from h1]; exact rfl
    | bad => exact trivial
theorem j_for {ev : σ → Env → Prop} {t : T} {ti : R (List α)} {f : σ → α → R σ} {st0 : σ} {k : σ → R τ} (h : Ref (den it s) ti) (h0 : ev st0 s)
    (en : α → Env → Env) (hb : ∀ x st s', ev st s' → bindT t (em x) s' = .ok (en x s')) (hs : ∀ x st s', ev st s' → J b (en x s') .nx (f st x) (QN ev)) (hk : ∀ st s', ev st s' → RG (F s') (k st) Q) :
    J (.forS [] t it b) s F (ti >>= fun l => forN l st0 f >>= k) Q :=
  rg_out (listW h) fun l => rg_bind (rg_for (fun x st s' hev => by
    have := hs x st s' hev
    unfold J at this
    show RG (out (bindT t (em x) s') fun s'' => andO (denS b s'') .nx) _ _
    rw [hb x st s' hev]
    exact this) l st0 s h0) hk
theorem j_forX {ev : σ → Env → Prop} {t : T} {ti : R (List α)} {f : σ → α → R (Nx σ ρ)} {st0 : σ} {k : σ → R τ} {kr : ρ → τ} (h : Ref (den it s) ti) (h0 : ev st0 s)
    (en : α → Env → Env) (hb : ∀ x st s', ev st s' → bindT t (em x) s' = .ok (en x s')) (hs : ∀ x st s', ev st s' → J b (en x s') .nx (f st x) (QX ev)) (hr : ∀ r, Q (kr r) (.ret (em r))) (hk : ∀ st s', ev st s' → RG (F s') (k st) Q) :
    J (.forS [] t it b) s F (ti >>= fun l => forX l st0 f >>= fun r => nxE r k kr) Q :=
  rg_out (listW h) fun l => rg_bindX (rg_forX (fun x st s' hev => by
    have := hs x st s' hev
    unfold J at this
    show RG (out (bindT t (em x) s') fun s'' => andO (denS b s'') .nx) _ _
    rw [hb x st s' hev]
    exact this) l st0 s h0) hr hk
theorem rg_while {ev : σ → Env → Prop} {C : Env → R Bool} {G : Env → Out} {c : σ → R Bool} {f : σ → R σ} (hc : ∀ st s', ev st s' → RefW id (C s') (c st)) (hs : ∀ st s', ev st s' → RG (G s') (f st) (QN ev)) : ∀ (n : Nat) (st : σ) (s' : Env), ev st s' → RG (whileD C G n s') (whileN n st c f) (QN ev)
  | 0, st, s', h => trivial
  | n + 1, st, s', h => by
    have h1 := hc st s' h
    show RG (out (C s') _) (c st >>= _) _
    cases hcs : c st with
    | ok k =>
      rw [hcs] at h1
      rw [show C s' = .ok k from h1]
      cases k with
      | false => exact ⟨s', rfl, h⟩
      | true => exact rg_bind (ev := ev) (t := f st) (k := fun s' => whileN n s' c f) (hs st s' h) fun st' s'' h' => rg_while hc hs n st' s'' h'
    | ex x => rw [hcs] at h1; rw [show C s' = .ex x from h1]; exact rfl
    | bad => exact trivial
theorem rg_whileX {ev : σ → Env → Prop} {C : Env → R Bool} {G : Env → Out} {c : σ → R Bool} {f : σ → R (Nx σ ρ)} (hc : ∀ st s', ev st s' → RefW id (C s') (c st)) (hs : ∀ st s', ev st s' → RG (G s') (f st) (QX ev)) : ∀ (n : Nat) (st : σ) (s' : Env), ev st s' → RG (whileD C G n s') (whileX n st c f) (QX ev)
  | 0, st, s', h => trivial
  | n + 1, st, s', h => by
    have h1 := hc st s' h
    show RG (out (C s') _) (c st >>= _) _
    cases hcs : c st with
    | ok k =>
      rw [hcs] at h1
      rw [show C s' = .ok k from h1]
      cases k with
      | false => exact ⟨s', rfl, h⟩
      | true =>
        have h1 := hs st s' h
        show RG (andO (G s') _) (f st >>= _) _
        cases hf : f st with
        | ok y => cases y with
          | nx st' =>
            rw [hf] at h1
            obtain ⟨s'', h2, h3⟩ := h1
            rw [h2]
            exact rg_whileX hc hs n st' s'' h3
          | ret r => rw [hf] at h1; rw [show G s' = .ret (em r) from h1]; exact rfl
        | ex c => rw [hf] at h1; rw [show G s' = .ex c from h1]; exact rfl
        | bad => exact trivial
    | ex x => rw [hcs] at h1; rw [show C s' = .ex x from h1]; exact rfl
    | bad => exact trivial
theorem j_while {ev : σ → Env → Prop} {n : Nat} {c : σ → R Bool} {f : σ → R σ} {st0 : σ} {k : σ → R τ} (h0 : ev st0 s) (hc : ∀ st s', ev st s' → Ref (den e s') (c st)) (hs : ∀ st s', ev st s' → J b s' .nx (f st) (QN ev)) (hk : ∀ st s', ev st s' → RG (F s') (k st) Q) :
    J (.whileS n [] e b) s F (whileN n st0 c f >>= k) Q := rg_bind (rg_while (fun st s' h => truthW (hc st s' h)) (fun st s' h => by
    have := hs st s' h
    unfold J at this
    exact this) n st0 s h0) hk
theorem j_whileX {ev : σ → Env → Prop} {n : Nat} {c : σ → R Bool} {f : σ → R (Nx σ ρ)} {st0 : σ} {k : σ → R τ} {kr : ρ → τ} (h0 : ev st0 s) (hc : ∀ st s', ev st s' → Ref (den e s') (c st)) (hs : ∀ st s', ev st s' → J b s' .nx (f st) (QX ev)) (hr : ∀ r, Q (kr r) (.ret (em r))) (hk : ∀ st s', ev st s' → RG (F s') (k st) Q) :
    J (.whileS n [] e b) s F (whileX n st0 c f >>= fun r => nxE r k kr) Q := rg_bindX (rg_whileX (fun st s' h => truthW (hc st s' h)) (fun st s' h => by
    have := hs st s' h
    unfold J at this
    exact this) n st0 s h0) hr hk
/-- the end of a turn -/
theorem j_nx {ev : σ → Env → Prop} {st : σ} (h : ev st s) : RG (Out.nx s) (.ok st) (QN ev) := ⟨s, rfl, h⟩
theorem j_nxX {ev : σ → Env → Prop} {st : σ} (h : ev st s) : RG (Out.nx s) (.ok (.nx st)) (QX (ρ := ρ) ev) := ⟨s, rfl, h⟩
theorem j_endU : RG (Out.nx s) (.ok ()) QU := .inr ⟨s, rfl⟩
theorem qT (r : ρ) : QT r (.ret (em r)) := rfl
theorem qX {ev : σ → Env → Prop} (r : ρ) : QX ev (.ret r) (.ret (em r)) := rfl
/-! ### defs -/
theorem r_fn {n m : Nat} {ds : List D} {t : R ρ} (hl : ds.length = n) (h : J a (ds.map some ++ List.replicate (m - n) none) .nx t QT) : Ref (fnD n m a ds) t := by
  unfold J at h
  rw [andO_nx'] at h
  unfold fnD
  rw [if_pos hl]
  cases t with
  | ok r => rw [show denS a _ = .ret (em r) from h]; exact rfl
  | ex c => rw [show denS a _ = .ex c from h]; exact rfl
  | bad => exact trivial
theorem r_fnU {n m : Nat} {ds : List D} {t : R Unit} (hl : ds.length = n) (h : J a (ds.map some ++ List.replicate (m - n) none) .nx t QU) : Ref (fnD n m a ds) t := by
  unfold J at h
  rw [andO_nx'] at h
  unfold fnD
  rw [if_pos hl]
  cases t with
  | ok r =>
    rcases (h : _ ∨ _) with h | ⟨s', h⟩
    · rw [h]; exact rfl
    · rw [h]; exact rfl
  | ex c => rw [show denS a _ = .ex c from h]; exact rfl
  | bad => exact trivial
end
end SF

namespace SF
open SF.Em (em)
open SF.Up (up)
open PySem
/-- the script -/
structure Scr where
  ns : List Int
instance : Em Scr := ⟨fun s => scrD s.ns⟩
def n__law_cell (s : Scr) (k : Int) : R Int := if s.ns.length ≤ 63 then .ok (cellI s.ns k) else .bad
theorem r__law_cell (s : Scr) (k : Int) : Ref (cellD [em s, em k]) (n__law_cell s k) := by
  unfold n__law_cell
  split
  · rename_i h; exact cell_eq s.ns h k
  · exact trivial
end SF

namespace Lw
open SF.Em (em)
open SF.Up (up)
open PySem SF
def b_is_number : S :=
  (.seq (.ret (.andE (.op1 (.isInst .int) (.var 0)) (.andE (.notE (.op1 (.isInst .bool) (.var 0))) (.oneE (.chain .le .le (.var 1) (.var 0) (.var 2))))))
    .skip)
def f_is_number : Fn := fnD 3 3 b_is_number
noncomputable def n_is_number (v_thing : D) (v_low : Int) (v_high : Int) : R (Bool) :=
  (upR (((upR (R.ok v_thing) : R (D)) >>= O1.f (.isInst .int)) >>= fun q7 => if q7 then ((((upR (R.ok v_thing) : R (D)) >>= O1.f (.isInst .bool)) >>= fun q1 => R.ok (!q1)) >>= fun q6 => if q6 then ((R.ok v_low) >>= fun q2 => (R.ok v_thing) >>= fun q3 => O2.f .le q2 q3 >>= fun q4 => if q4 then (R.ok v_high) >>= fun q5 => O2.f .le q3 q5 else R.ok false) else R.ok false) else R.ok false) : R (Bool))
theorem r_is_number (v_thing : D) (v_low : Int) (v_high : Int) : Ref (f_is_number [em v_thing, em v_low, em v_high]) (n_is_number v_thing v_low v_high) := by
  delta f_is_number b_is_number n_is_number
  exact r_fn rfl (j_env (s' := [some (em v_thing), some (em v_low), some (em v_high)]) rfl
  (j_seq (j_retT (ref_up (r_and (r_op1 (ref_up (r_var rfl))) (r_and (r_not (r_op1 (ref_up (r_var rfl)))) (r_one (r_chain (r_var rfl) (r_var rfl) (r_var rfl)))))))))
def b_is_place : S :=
  (.seq (.ifS (.orE (.notE (.op1 (.isInst .tuple) (.var 0))) (.orE (.op2 .ne (.op1 .len (.var 0)) (.cst (.int 2))) (.oneE (.notE (.call "is_number" f_is_number (.cons (.op2 .idx (.var 0) (.cst (.int 0))) (.cons (.cst (.int 0)) (.cons (.glob "MOST_AMOUNT" (.int 9)) .nil))))))))
    (.seq (.ret (.cst (.bool false)))
    .skip)
    .skip)
    (.seq (.set 2 (.op2 .idx (.var 0) (.cst (.int 1))))
    (.seq (.ifS (.orE (.notE (.op1 (.isInst .tuple) (.var 2))) (.oneE (.notE (.op1 .all (.lc [3] (.name 3) (.itSeq (.var 2)) (.cst (.bool true)) (.call "is_number" f_is_number (.cons (.var 3) (.cons (.cst (.int 0)) (.cons (.op2 .sub (.var 1) (.cst (.int 1))) .nil)))))))))
    (.seq (.ret (.cst (.bool false)))
    .skip)
    .skip)
    (.seq (.ret (.op2 .eq (.op1 .lenSet (.var 2)) (.op1 .len (.var 2))))
    .skip))))
def f_is_place : Fn := fnD 2 4 b_is_place
noncomputable def n_is_place (v_thing : D) (v_many : Int) : R (Bool) :=
  (((((upR (R.ok v_thing) : R (D)) >>= O1.f (.isInst .tuple)) >>= fun q1 => R.ok (!q1)) >>= fun q9 => if q9 then R.ok true else ((((R.ok v_thing) >>= O1.f .len) >>= fun q2 => (R.ok (2 : Int)) >>= fun q3 => O2.f .ne q2 q3) >>= fun q8 => if q8 then R.ok true else (((upR ((R.ok v_thing) >>= OC.f .idx 0) : R (D)) >>= fun q4 => (upR (R.ok (0 : Int)) : R (Int)) >>= fun q5 => (upR (R.ok (9 : Int)) : R (Int)) >>= fun q6 => n_is_number q4 q5 q6) >>= fun q7 => R.ok (!q7)))) >>= fun q10 => if q10 then (upR (R.ok false) : R (Bool))
  else (((R.ok v_thing) >>= OC.f .idx 1) >>= fun v_likes =>
  (((((upR (R.ok v_likes) : R (D)) >>= O1.f (.isInst .tuple)) >>= fun q11 => R.ok (!q11)) >>= fun q20 => if q20 then R.ok true else (((((R.ok v_likes) >>= SeqN.f) >>= fun q13 => mapN q13 (fun p12 => ((upR (R.ok p12) : R (D)) >>= fun q16 => (upR (R.ok (0 : Int)) : R (Int)) >>= fun q17 => (upR ((R.ok v_many) >>= fun q14 => (R.ok (1 : Int)) >>= fun q15 => O2.f .sub q14 q15) : R (Int)) >>= fun q18 => n_is_number q16 q17 q18))) >>= O1.f .all) >>= fun q19 => R.ok (!q19))) >>= fun q21 => if q21 then (upR (R.ok false) : R (Bool))
  else (upR (((R.ok v_likes) >>= O1.f .lenSet) >>= fun q22 => ((R.ok v_likes) >>= O1.f .len) >>= fun q23 => O2.f .eq q22 q23) : R (Bool)))))
theorem r_is_place (v_thing : D) (v_many : Int) : Ref (f_is_place [em v_thing, em v_many]) (n_is_place v_thing v_many) := by
  delta f_is_place b_is_place n_is_place
  exact r_fn rfl (j_env (s' := [some (em v_thing), some (em v_many), none, none]) rfl
  (j_seq (j_if (r_or (r_not (r_op1 (ref_up (r_var rfl)))) (r_or (r_op2 (r_op1 (r_var rfl)) (r_int _)) (r_one (r_not (r_call3 r_is_number (ref_up (r_opc (r_var rfl))) (ref_up (r_int _)) (ref_up (r_glob _))))))) (j_seq (j_retT (ref_up (r_bool _))))
  (j_skip (j_seq (j_set (r_opc (r_var rfl)) fun v_likes =>
  (j_env (s' := [some (em v_thing), some (em v_many), some (em v_likes), none]) rfl (j_seq (j_if (r_or (r_not (r_op1 (ref_up (r_var rfl)))) (r_one (r_not (r_op1 (r_lcm (r_itSeq (r_var rfl)) (fun p12 => [some (em v_thing), some (em v_many), some (em v_likes), some (em p12)]) (fun _ => rfl) (fun p12 => (r_call3 r_is_number (ref_up (r_var rfl)) (ref_up (r_int _)) (ref_up (r_op2 (r_var rfl) (r_int _)))))))))) (j_seq (j_retT (ref_up (r_bool _))))
  (j_skip (j_seq (j_retT (ref_up (r_op2 (r_op1 (r_var rfl)) (r_op1 (r_var rfl))))))))))))))))
def b_are_places : S :=
  (.seq (.ret (.andE (.op1 (.isInst .tuple) (.var 0)) (.oneE (.chain .le .le (.cst (.int 1)) (.op1 .len (.var 0)) (.glob "MOST_PLACES" (.int 4))))))
    .skip)
def f_are_places : Fn := fnD 1 1 b_are_places
noncomputable def n_are_places (v_thing : D) : R (Bool) :=
  (upR (((upR (R.ok v_thing) : R (D)) >>= O1.f (.isInst .tuple)) >>= fun q5 => if q5 then ((R.ok (1 : Int)) >>= fun q1 => ((R.ok v_thing) >>= O1.f .len) >>= fun q2 => O2.f .le q1 q2 >>= fun q3 => if q3 then (R.ok (4 : Int)) >>= fun q4 => O2.f .le q2 q4 else R.ok false) else R.ok false) : R (Bool))
theorem r_are_places (v_thing : D) : Ref (f_are_places [em v_thing]) (n_are_places v_thing) := by
  delta f_are_places b_are_places n_are_places
  exact r_fn rfl (j_env (s' := [some (em v_thing)]) rfl
  (j_seq (j_retT (ref_up (r_and (r_op1 (ref_up (r_var rfl))) (r_one (r_chain (r_int _) (r_op1 (r_var rfl)) (r_glob _))))))))
def b_is_way : S :=
  (.seq (.ifS (.orE (.notE (.op1 (.isInst .tuple) (.var 0))) (.orE (.op2 .ne (.op1 .len (.var 0)) (.cst (.int 3))) (.oneE (.notE (.call "is_number" f_is_number (.cons (.op2 .idx (.var 0) (.cst (.int 2))) (.cons (.cst (.int 1)) (.cons (.glob "MOST_AMOUNT" (.int 9)) .nil))))))))
    (.seq (.ret (.cst (.bool false)))
    .skip)
    .skip)
    (.seq (.ret (.andE (.call "is_number" f_is_number (.cons (.op2 .idx (.var 0) (.cst (.int 0))) (.cons (.cst (.int 0)) (.cons (.op2 .sub (.var 1) (.cst (.int 1))) .nil)))) (.oneE (.call "is_number" f_is_number (.cons (.op2 .idx (.var 0) (.cst (.int 1))) (.cons (.cst (.int 0)) (.cons (.op2 .sub (.var 2) (.cst (.int 1))) .nil)))))))
    .skip))
def f_is_way : Fn := fnD 3 3 b_is_way
noncomputable def n_is_way (v_thing : D) (v_givers : Int) (v_takers : Int) : R (Bool) :=
  (((((upR (R.ok v_thing) : R (D)) >>= O1.f (.isInst .tuple)) >>= fun q1 => R.ok (!q1)) >>= fun q9 => if q9 then R.ok true else ((((R.ok v_thing) >>= O1.f .len) >>= fun q2 => (R.ok (3 : Int)) >>= fun q3 => O2.f .ne q2 q3) >>= fun q8 => if q8 then R.ok true else (((upR ((R.ok v_thing) >>= OC.f .idx 2) : R (D)) >>= fun q4 => (upR (R.ok (1 : Int)) : R (Int)) >>= fun q5 => (upR (R.ok (9 : Int)) : R (Int)) >>= fun q6 => n_is_number q4 q5 q6) >>= fun q7 => R.ok (!q7)))) >>= fun q10 => if q10 then (upR (R.ok false) : R (Bool))
  else (upR (((upR ((R.ok v_thing) >>= OC.f .idx 0) : R (D)) >>= fun q13 => (upR (R.ok (0 : Int)) : R (Int)) >>= fun q14 => (upR ((R.ok v_givers) >>= fun q11 => (R.ok (1 : Int)) >>= fun q12 => O2.f .sub q11 q12) : R (Int)) >>= fun q15 => n_is_number q13 q14 q15) >>= fun q21 => if q21 then ((upR ((R.ok v_thing) >>= OC.f .idx 1) : R (D)) >>= fun q18 => (upR (R.ok (0 : Int)) : R (Int)) >>= fun q19 => (upR ((R.ok v_takers) >>= fun q16 => (R.ok (1 : Int)) >>= fun q17 => O2.f .sub q16 q17) : R (Int)) >>= fun q20 => n_is_number q18 q19 q20) else R.ok false) : R (Bool)))
theorem r_is_way (v_thing : D) (v_givers : Int) (v_takers : Int) : Ref (f_is_way [em v_thing, em v_givers, em v_takers]) (n_is_way v_thing v_givers v_takers) := by
  delta f_is_way b_is_way n_is_way
  exact r_fn rfl (j_env (s' := [some (em v_thing), some (em v_givers), some (em v_takers)]) rfl
  (j_seq (j_if (r_or (r_not (r_op1 (ref_up (r_var rfl)))) (r_or (r_op2 (r_op1 (r_var rfl)) (r_int _)) (r_one (r_not (r_call3 r_is_number (ref_up (r_opc (r_var rfl))) (ref_up (r_int _)) (ref_up (r_glob _))))))) (j_seq (j_retT (ref_up (r_bool _))))
  (j_skip (j_seq (j_retT (ref_up (r_and (r_call3 r_is_number (ref_up (r_opc (r_var rfl))) (ref_up (r_int _)) (ref_up (r_op2 (r_var rfl) (r_int _)))) (r_one (r_call3 r_is_number (ref_up (r_opc (r_var rfl))) (ref_up (r_int _)) (ref_up (r_op2 (r_var rfl) (r_int _)))))))))))))
def b_is_world : S :=
  (.seq (.ifS (.orE (.notE (.op1 (.isInst .tuple) (.var 0))) (.orE (.op2 .ne (.op1 .len (.var 0)) (.cst (.int 3))) (.orE (.notE (.call "are_places" f_are_places (.cons (.op2 .idx (.var 0) (.cst (.int 0))) .nil))) (.oneE (.notE (.call "are_places" f_are_places (.cons (.op2 .idx (.var 0) (.cst (.int 1))) .nil)))))))
    (.seq (.ret (.cst (.bool false)))
    .skip)
    .skip)
    (.seq (.setT [1, 2, 3] (.var 0))
    (.seq (.ifS (.notE (.op1 .all (.lc [10] (.name 10) (.itSeq (.var 1)) (.cst (.bool true)) (.call "is_place" f_is_place (.cons (.var 10) (.cons (.op1 .len (.var 2)) .nil))))))
    (.seq (.ret (.cst (.bool false)))
    .skip)
    .skip)
    (.seq (.ifS (.notE (.op1 .all (.lc [10] (.name 10) (.itSeq (.var 2)) (.cst (.bool true)) (.call "is_place" f_is_place (.cons (.var 10) (.cons (.op1 .len (.var 1)) .nil))))))
    (.seq (.ret (.cst (.bool false)))
    .skip)
    .skip)
    (.seq (.ifS (.orE (.notE (.op1 (.isInst .tuple) (.var 3))) (.oneE (.notE (.op1 .all (.lc [10] (.name 10) (.itSeq (.var 3)) (.cst (.bool true)) (.call "is_way" f_is_way (.cons (.var 10) (.cons (.op1 .len (.var 1)) (.cons (.op1 .len (.var 2)) .nil)))))))))
    (.seq (.ret (.cst (.bool false)))
    .skip)
    .skip)
    (.seq (.set 4 (.lc [11] (.name 11) (.itSeq (.var 3)) (.cst (.bool true)) (.op2 .to (.var 11) (.cst (.int 2)))))
    (.seq (.ifS (.op2 .ne (.var 4) (.op1 .sortedSet (.var 4)))
    (.seq (.ret (.cst (.bool false)))
    .skip)
    .skip)
    (.seq (.setO 5 (.lst .nil))
    (.seq (.setO 6 (.lst .nil))
    (.seq (.forS [] (.tup [7, 8]) (.itEnum (.var 1))
    (.seq (.ext 5 (.lc [9] (.name 9) (.itSeq (.op2 .idx (.var 8) (.cst (.int 1)))) (.cst (.bool true)) (.tup (.cons (.var 7) (.cons (.var 9) .nil)))))
    .skip))
    (.seq (.forS [] (.tup [9, 8]) (.itEnum (.var 2))
    (.seq (.ext 6 (.lc [7] (.name 7) (.itSeq (.op2 .idx (.var 8) (.cst (.int 1)))) (.cst (.bool true)) (.tup (.cons (.var 7) (.cons (.var 9) .nil)))))
    .skip))
    (.seq (.ret (.andE (.op2 .eq (.op1 .sorted (.var 5)) (.var 4)) (.oneE (.op2 .eq (.op1 .sorted (.var 6)) (.var 4)))))
    .skip))))))))))))
def f_is_world : Fn := fnD 1 12 b_is_world
noncomputable def n_is_world (v_thing : D) : R (Bool) :=
  (((((upR (R.ok v_thing) : R (D)) >>= O1.f (.isInst .tuple)) >>= fun q1 => R.ok (!q1)) >>= fun q10 => if q10 then R.ok true else ((((R.ok v_thing) >>= O1.f .len) >>= fun q2 => (R.ok (3 : Int)) >>= fun q3 => O2.f .ne q2 q3) >>= fun q9 => if q9 then R.ok true else ((((upR ((R.ok v_thing) >>= OC.f .idx 0) : R (D)) >>= n_are_places) >>= fun q5 => R.ok (!q5)) >>= fun q8 => if q8 then R.ok true else (((upR ((R.ok v_thing) >>= OC.f .idx 1) : R (D)) >>= n_are_places) >>= fun q7 => R.ok (!q7))))) >>= fun q11 => if q11 then (upR (R.ok false) : R (Bool))
  else ((R.ok v_thing) >>= fun q70 => oR (Un3.f q70) >>= fun p12 =>
  ((((((R.ok p12.a) >>= SeqN.f) >>= fun q14 => mapN q14 (fun p13 => ((upR (R.ok p13) : R (D)) >>= fun q15 => (upR ((R.ok p12.b) >>= O1.f .len) : R (Int)) >>= fun q16 => n_is_place q15 q16))) >>= O1.f .all) >>= fun q17 => R.ok (!q17)) >>= fun q18 => if q18 then (upR (R.ok false) : R (Bool))
  else ((((((R.ok p12.b) >>= SeqN.f) >>= fun q20 => mapN q20 (fun p19 => ((upR (R.ok p19) : R (D)) >>= fun q21 => (upR ((R.ok p12.a) >>= O1.f .len) : R (Int)) >>= fun q22 => n_is_place q21 q22))) >>= O1.f .all) >>= fun q23 => R.ok (!q23)) >>= fun q24 => if q24 then (upR (R.ok false) : R (Bool))
  else (((((upR (R.ok p12.c) : R (D)) >>= O1.f (.isInst .tuple)) >>= fun q25 => R.ok (!q25)) >>= fun q32 => if q32 then R.ok true else (((((R.ok p12.c) >>= SeqN.f) >>= fun q27 => mapN q27 (fun p26 => ((upR (R.ok p26) : R (D)) >>= fun q28 => (upR ((R.ok p12.a) >>= O1.f .len) : R (Int)) >>= fun q29 => (upR ((R.ok p12.b) >>= O1.f .len) : R (Int)) >>= fun q30 => n_is_way q28 q29 q30))) >>= O1.f .all) >>= fun q31 => R.ok (!q31))) >>= fun q33 => if q33 then (upR (R.ok false) : R (Bool))
  else ((((R.ok p12.c) >>= SeqN.f) >>= fun q35 => mapN q35 (fun p34 => ((R.ok p34) >>= OC.f .to 2))) >>= fun v_pairs =>
  (((R.ok v_pairs) >>= fun q36 => ((R.ok v_pairs) >>= O1.f .sortedSet) >>= fun q37 => O2.f .ne q36 q37) >>= fun q38 => if q38 then (upR (R.ok false) : R (Bool))
  else ((upR (R.ok NilL.v) : R (List D)) >>= fun v_mine =>
  ((upR (R.ok NilL.v) : R (List D)) >>= fun v_yours =>
  (((R.ok p12.a) >>= fun q42 => SeqN.f q42 >>= fun q43 => R.ok (enumN q43)) >>= fun q69 => forN q69 v_mine (fun st39 p44 =>
  ((upR ((((R.ok p44.2) >>= OC.f .idx 1) >>= SeqN.f) >>= fun q48 => mapN q48 (fun p47 => ((R.ok p44.1) >>= fun q49 => (R.ok p47) >>= fun q50 => R.ok ((q49, q50))))) : R (List (D))) >>= fun q45 => extN st39 q45 >>= fun v_mine =>
  (R.ok v_mine))) >>= fun st39 =>
  (((R.ok p12.b) >>= fun q54 => SeqN.f q54 >>= fun q55 => R.ok (enumN q55)) >>= fun q68 => forN q68 v_yours (fun st51 p56 =>
  ((upR ((((R.ok p56.2) >>= OC.f .idx 1) >>= SeqN.f) >>= fun q60 => mapN q60 (fun p59 => ((R.ok p59) >>= fun q61 => (R.ok p56.1) >>= fun q62 => R.ok ((q61, q62))))) : R (List (D))) >>= fun q57 => extN st51 q57 >>= fun v_yours =>
  (R.ok v_yours))) >>= fun st51 =>
  (upR ((((R.ok st39) >>= O1.f .sorted) >>= fun q63 => (R.ok v_pairs) >>= fun q64 => O2.f .eq q63 q64) >>= fun q67 => if q67 then (((R.ok st51) >>= O1.f .sorted) >>= fun q65 => (R.ok v_pairs) >>= fun q66 => O2.f .eq q65 q66) else R.ok false) : R (Bool)))))))))))))
theorem r_is_world (v_thing : D) : Ref (f_is_world [em v_thing]) (n_is_world v_thing) := by
  delta f_is_world b_is_world n_is_world
  exact r_fn rfl (j_env (s' := [some (em v_thing), none, none, none, none, none, none, none, none, none, none, none]) rfl
  (j_seq (j_if (r_or (r_not (r_op1 (ref_up (r_var rfl)))) (r_or (r_op2 (r_op1 (r_var rfl)) (r_int _)) (r_or (r_not (r_call1 r_are_places (ref_up (r_opc (r_var rfl))))) (r_one (r_not (r_call1 r_are_places (ref_up (r_opc (r_var rfl))))))))) (j_seq (j_retT (ref_up (r_bool _))))
  (j_skip (j_seq (j_setT3 (r_var rfl) fun p12 =>
  (j_env (s' := [some (em v_thing), some (em p12.a), some (em p12.b), some (em p12.c), none, none, none, none, none, none, none, none]) rfl (j_seq (j_if (r_not (r_op1 (r_lcm (r_itSeq (r_var rfl)) (fun p13 => [some (em v_thing), some (em p12.a), some (em p12.b), some (em p12.c), none, none, none, none, none, none, some (em p13), none]) (fun _ => rfl) (fun p13 => (r_call2 r_is_place (ref_up (r_var rfl)) (ref_up (r_op1 (r_var rfl)))))))) (j_seq (j_retT (ref_up (r_bool _))))
  (j_skip (j_seq (j_if (r_not (r_op1 (r_lcm (r_itSeq (r_var rfl)) (fun p19 => [some (em v_thing), some (em p12.a), some (em p12.b), some (em p12.c), none, none, none, none, none, none, some (em p19), none]) (fun _ => rfl) (fun p19 => (r_call2 r_is_place (ref_up (r_var rfl)) (ref_up (r_op1 (r_var rfl)))))))) (j_seq (j_retT (ref_up (r_bool _))))
  (j_skip (j_seq (j_if (r_or (r_not (r_op1 (ref_up (r_var rfl)))) (r_one (r_not (r_op1 (r_lcm (r_itSeq (r_var rfl)) (fun p26 => [some (em v_thing), some (em p12.a), some (em p12.b), some (em p12.c), none, none, none, none, none, none, some (em p26), none]) (fun _ => rfl) (fun p26 => (r_call3 r_is_way (ref_up (r_var rfl)) (ref_up (r_op1 (r_var rfl))) (ref_up (r_op1 (r_var rfl)))))))))) (j_seq (j_retT (ref_up (r_bool _))))
  (j_skip (j_seq (j_set (r_lcm (r_itSeq (r_var rfl)) (fun p34 => [some (em v_thing), some (em p12.a), some (em p12.b), some (em p12.c), none, none, none, none, none, none, none, some (em p34)]) (fun _ => rfl) (fun p34 => (r_opc (r_var rfl)))) fun v_pairs =>
  (j_env (s' := [some (em v_thing), some (em p12.a), some (em p12.b), some (em p12.c), some (em v_pairs), none, none, none, none, none, none, none]) rfl (j_seq (j_if (r_op2 (r_var rfl) (r_op1 (r_var rfl))) (j_seq (j_retT (ref_up (r_bool _))))
  (j_skip (j_seq (j_setO (ref_up r_lst0) fun v_mine =>
  (j_env (s' := [some (em v_thing), some (em p12.a), some (em p12.b), some (em p12.c), some (em v_pairs), some (em v_mine), none, none, none, none, none, none]) rfl (j_seq (j_setO (ref_up r_lst0) fun v_yours =>
  (j_env (s' := [some (em v_thing), some (em p12.a), some (em p12.b), some (em p12.c), some (em v_pairs), some (em v_mine), some (em v_yours), none, none, none, none, none]) rfl (j_seq (j_for (ev := (fun st39 s' => ∃ j40 j41, s' = [some (em v_thing), some (em p12.a), some (em p12.b), some (em p12.c), some (em v_pairs), some (em st39), some (em v_yours), j40, j41, none, none, none])) (r_itEnum (r_var rfl)) ⟨_, _, rfl⟩ (fun x s' => (s'.set 7 (some (em x.1))).set 8 (some (em x.2))) (fun _ _ _ h0 => by obtain ⟨j40, j41, rfl⟩ := h0; rfl) (fun p44 st39 s0 h0 => by
  obtain ⟨j40, j41, rfl⟩ := h0
  exact j_env (s' := [some (em v_thing), some (em p12.a), some (em p12.b), some (em p12.c), some (em v_pairs), some (em st39), some (em v_yours), some (em p44.1), some (em p44.2), none, none, none]) rfl (j_seq (j_ext rfl (ref_up (r_lcm (r_itSeq (r_opc (r_var rfl))) (fun p47 => [some (em v_thing), some (em p12.a), some (em p12.b), some (em p12.c), some (em v_pairs), some (em st39), some (em v_yours), some (em p44.1), some (em p44.2), some (em p47), none, none]) (fun _ => rfl) (fun p47 => (r_tup2 (r_var rfl) (r_var rfl))))) fun v_mine =>
  (j_env (s' := [some (em v_thing), some (em p12.a), some (em p12.b), some (em p12.c), some (em v_pairs), some (em v_mine), some (em v_yours), some (em p44.1), some (em p44.2), none, none, none]) rfl (j_skip (j_nx ⟨_, _, rfl⟩)))))) (fun st39 s0 h0 => by
  obtain ⟨j40, j41, rfl⟩ := h0
  exact (j_seq (j_for (ev := (fun st51 s' => ∃ j52 j53, s' = [some (em v_thing), some (em p12.a), some (em p12.b), some (em p12.c), some (em v_pairs), some (em st39), some (em st51), j40, j53, j52, none, none])) (r_itEnum (r_var rfl)) ⟨_, _, rfl⟩ (fun x s' => (s'.set 9 (some (em x.1))).set 8 (some (em x.2))) (fun _ _ _ h0 => by obtain ⟨j52, j53, rfl⟩ := h0; rfl) (fun p56 st51 s0 h0 => by
  obtain ⟨j52, j53, rfl⟩ := h0
  exact j_env (s' := [some (em v_thing), some (em p12.a), some (em p12.b), some (em p12.c), some (em v_pairs), some (em st39), some (em st51), j40, some (em p56.2), some (em p56.1), none, none]) rfl (j_seq (j_ext rfl (ref_up (r_lcm (r_itSeq (r_opc (r_var rfl))) (fun p59 => [some (em v_thing), some (em p12.a), some (em p12.b), some (em p12.c), some (em v_pairs), some (em st39), some (em st51), some (em p59), some (em p56.2), some (em p56.1), none, none]) (fun _ => rfl) (fun p59 => (r_tup2 (r_var rfl) (r_var rfl))))) fun v_yours =>
  (j_env (s' := [some (em v_thing), some (em p12.a), some (em p12.b), some (em p12.c), some (em v_pairs), some (em st39), some (em v_yours), j40, some (em p56.2), some (em p56.1), none, none]) rfl (j_skip (j_nx ⟨_, _, rfl⟩)))))) (fun st51 s0 h0 => by
  obtain ⟨j52, j53, rfl⟩ := h0
  exact (j_seq (j_retT (ref_up (r_and (r_op2 (r_op1 (r_var rfl)) (r_var rfl)) (r_one (r_op2 (r_op1 (r_var rfl)) (r_var rfl)))))))))))))))))))))))))))))))))))))))))
abbrev f__law_cell : Fn := cellD
def b__law_drawn : S :=
  (.seq (.set 3 (.op2 .mod (.op2 .add (.op2 .mul (.op2 .mod (.call "_law_cell" f__law_cell (.cons (.var 0) (.cons (.var 1) .nil))) (.cst (.int 2147483563))) (.cst (.int 69069))) (.op2 .mul (.cst (.int 104723)) (.op2 .add (.var 1) (.cst (.int 1))))) (.cst (.int 2147483563))))
    (.seq (.set 3 (.op2 .mod (.op2 .add (.op2 .mul (.var 3) (.var 3)) (.op2 .fdiv (.var 3) (.cst (.int 3)))) (.cst (.int 2147483399))))
    (.seq (.ret (.op2 .mod (.op2 .fdiv (.op2 .mod (.op2 .add (.op2 .mul (.var 3) (.var 3)) (.op2 .fdiv (.var 3) (.cst (.int 7)))) (.cst (.int 2147483647))) (.cst (.int 11))) (.var 2)))
    .skip)))
def f__law_drawn : Fn := fnD 3 4 b__law_drawn
noncomputable def n__law_drawn (v_script : Scr) (v_k : Int) (v_many : Int) : R (Int) :=
  (((((((upR (R.ok v_script) : R (Scr)) >>= fun q1 => (upR (R.ok v_k) : R (Int)) >>= fun q2 => n__law_cell q1 q2) >>= fun q3 => (R.ok (2147483563 : Int)) >>= fun q4 => O2.f .mod q3 q4) >>= fun q5 => (R.ok (69069 : Int)) >>= fun q6 => O2.f .mul q5 q6) >>= fun q11 => ((R.ok (104723 : Int)) >>= fun q9 => ((R.ok v_k) >>= fun q7 => (R.ok (1 : Int)) >>= fun q8 => O2.f .add q7 q8) >>= fun q10 => O2.f .mul q9 q10) >>= fun q12 => O2.f .add q11 q12) >>= fun q13 => (R.ok (2147483563 : Int)) >>= fun q14 => O2.f .mod q13 q14) >>= fun v_cell_here =>
  (((((R.ok v_cell_here) >>= fun q15 => (R.ok v_cell_here) >>= fun q16 => O2.f .mul q15 q16) >>= fun q19 => ((R.ok v_cell_here) >>= fun q17 => (R.ok (3 : Int)) >>= fun q18 => O2.f .fdiv q17 q18) >>= fun q20 => O2.f .add q19 q20) >>= fun q21 => (R.ok (2147483399 : Int)) >>= fun q22 => O2.f .mod q21 q22) >>= fun v_cell_here =>
  (upR ((((((R.ok v_cell_here) >>= fun q23 => (R.ok v_cell_here) >>= fun q24 => O2.f .mul q23 q24) >>= fun q27 => ((R.ok v_cell_here) >>= fun q25 => (R.ok (7 : Int)) >>= fun q26 => O2.f .fdiv q25 q26) >>= fun q28 => O2.f .add q27 q28) >>= fun q29 => (R.ok (2147483647 : Int)) >>= fun q30 => O2.f .mod q29 q30) >>= fun q31 => (R.ok (11 : Int)) >>= fun q32 => O2.f .fdiv q31 q32) >>= fun q33 => (R.ok v_many) >>= fun q34 => O2.f .mod q33 q34) : R (Int))))
theorem r__law_drawn (v_script : Scr) (v_k : Int) (v_many : Int) : Ref (f__law_drawn [em v_script, em v_k, em v_many]) (n__law_drawn v_script v_k v_many) := by
  delta f__law_drawn b__law_drawn n__law_drawn
  exact r_fn rfl (j_env (s' := [some (em v_script), some (em v_k), some (em v_many), none]) rfl
  (j_seq (j_set (r_op2 (r_op2 (r_op2 (r_op2 (r_call2 r__law_cell (ref_up (r_var rfl)) (ref_up (r_var rfl))) (r_int _)) (r_int _)) (r_op2 (r_int _) (r_op2 (r_var rfl) (r_int _)))) (r_int _)) fun v_cell_here =>
  (j_env (s' := [some (em v_script), some (em v_k), some (em v_many), some (em v_cell_here)]) rfl (j_seq (j_set (r_op2 (r_op2 (r_op2 (r_var rfl) (r_var rfl)) (r_op2 (r_var rfl) (r_int _))) (r_int _)) fun v_cell_here =>
  (j_env (s' := [some (em v_script), some (em v_k), some (em v_many), some (em v_cell_here)]) rfl (j_seq (j_retT (ref_up (r_op2 (r_op2 (r_op2 (r_op2 (r_op2 (r_var rfl) (r_var rfl)) (r_op2 (r_var rfl) (r_int _))) (r_int _)) (r_int _)) (r_var rfl))))))))))))
def b__law_orders : S :=
  (.seq (.setO 3 (.lst .nil))
    (.seq (.forS [] (.tup [4, 5]) (.itEnum (.var 2))
    (.seq (.setO 6 (.lst .nil))
    (.seq (.forS [] (.tup [7, 8]) (.itEnum (.var 5))
    (.seq (.ins 6 (.call "_law_drawn" f__law_drawn (.cons (.var 0) (.cons (.op2 .add (.op2 .add (.var 1) (.op2 .mul (.cst (.int 4)) (.var 4))) (.var 7)) (.cons (.op2 .add (.op1 .len (.var 6)) (.cst (.int 1))) .nil)))) (.var 8))
    .skip))
    (.seq (.app 3 (.op1 .tupleOf (.var 6)))
    .skip))))
    (.seq (.ret (.var 3))
    .skip)))
def f__law_orders : Fn := fnD 3 9 b__law_orders
noncomputable def n__law_orders (v_script : Scr) (v_at : Int) (v_rows : List (List Int)) : R (List (Tp Int)) :=
  ((upR (R.ok NilL.v) : R (List (Tp Int))) >>= fun v_found =>
  (((R.ok v_rows) >>= fun q7 => SeqN.f q7 >>= fun q8 => R.ok (enumN q8)) >>= fun q32 => forN q32 v_found (fun st1 p9 =>
  ((upR (R.ok NilL.v) : R (List Int)) >>= fun v_order =>
  (((R.ok p9.2) >>= fun q13 => SeqN.f q13 >>= fun q14 => R.ok (enumN q14)) >>= fun q31 => forN q31 v_order (fun st10 p15 =>
  (((upR (R.ok v_script) : R (Scr)) >>= fun q26 => (upR (((R.ok v_at) >>= fun q20 => ((R.ok (4 : Int)) >>= fun q18 => (R.ok p9.1) >>= fun q19 => O2.f .mul q18 q19) >>= fun q21 => O2.f .add q20 q21) >>= fun q22 => (R.ok p15.1) >>= fun q23 => O2.f .add q22 q23) : R (Int)) >>= fun q27 => (upR (((R.ok st10) >>= O1.f .len) >>= fun q24 => (R.ok (1 : Int)) >>= fun q25 => O2.f .add q24 q25) : R (Int)) >>= fun q28 => n__law_drawn q26 q27 q28) >>= fun q17 => (R.ok p15.2) >>= fun q16 => insN st10 q17 q16 >>= fun v_order =>
  (R.ok v_order))) >>= fun st10 =>
  (((R.ok st10) >>= O1.f .tupleOf) >>= fun q29 => appN st1 q29 >>= fun v_found =>
  (R.ok v_found))))) >>= fun st1 =>
  (upR (R.ok st1) : R (List (Tp Int)))))
theorem r__law_orders (v_script : Scr) (v_at : Int) (v_rows : List (List Int)) : Ref (f__law_orders [em v_script, em v_at, em v_rows]) (n__law_orders v_script v_at v_rows) := by
  delta f__law_orders b__law_orders n__law_orders
  exact r_fn rfl (j_env (s' := [some (em v_script), some (em v_at), some (em v_rows), none, none, none, none, none, none]) rfl
  (j_seq (j_setO (ref_up r_lst0) fun v_found =>
  (j_env (s' := [some (em v_script), some (em v_at), some (em v_rows), some (em v_found), none, none, none, none, none]) rfl (j_seq (j_for (ev := (fun st1 s' => ∃ j2 j3 j4 j5 j6, s' = [some (em v_script), some (em v_at), some (em v_rows), some (em st1), j2, j3, j4, j5, j6])) (r_itEnum (r_var rfl)) ⟨_, _, _, _, _, rfl⟩ (fun x s' => (s'.set 4 (some (em x.1))).set 5 (some (em x.2))) (fun _ _ _ h0 => by obtain ⟨j2, j3, j4, j5, j6, rfl⟩ := h0; rfl) (fun p9 st1 s0 h0 => by
  obtain ⟨j2, j3, j4, j5, j6, rfl⟩ := h0
  exact j_env (s' := [some (em v_script), some (em v_at), some (em v_rows), some (em st1), some (em p9.1), some (em p9.2), j4, j5, j6]) rfl (j_seq (j_setO (ref_up r_lst0) fun v_order =>
  (j_env (s' := [some (em v_script), some (em v_at), some (em v_rows), some (em st1), some (em p9.1), some (em p9.2), some (em v_order), j5, j6]) rfl (j_seq (j_for (ev := (fun st10 s' => ∃ j11 j12, s' = [some (em v_script), some (em v_at), some (em v_rows), some (em st1), some (em p9.1), some (em p9.2), some (em st10), j11, j12])) (r_itEnum (r_var rfl)) ⟨_, _, rfl⟩ (fun x s' => (s'.set 7 (some (em x.1))).set 8 (some (em x.2))) (fun _ _ _ h0 => by obtain ⟨j11, j12, rfl⟩ := h0; rfl) (fun p15 st10 s0 h0 => by
  obtain ⟨j11, j12, rfl⟩ := h0
  exact j_env (s' := [some (em v_script), some (em v_at), some (em v_rows), some (em st1), some (em p9.1), some (em p9.2), some (em st10), some (em p15.1), some (em p15.2)]) rfl (j_seq (j_ins rfl (r_call3 r__law_drawn (ref_up (r_var rfl)) (ref_up (r_op2 (r_op2 (r_var rfl) (r_op2 (r_int _) (r_var rfl))) (r_var rfl))) (ref_up (r_op2 (r_op1 (r_var rfl)) (r_int _)))) (r_var rfl) fun v_order =>
  (j_env (s' := [some (em v_script), some (em v_at), some (em v_rows), some (em st1), some (em p9.1), some (em p9.2), some (em v_order), some (em p15.1), some (em p15.2)]) rfl (j_skip (j_nx ⟨_, _, rfl⟩)))))) (fun st10 s0 h0 => by
  obtain ⟨j11, j12, rfl⟩ := h0
  exact (j_seq (j_app rfl (r_op1 (r_var rfl)) fun v_found =>
  (j_env (s' := [some (em v_script), some (em v_at), some (em v_rows), some (em v_found), some (em p9.1), some (em p9.2), some (em st10), j11, j12]) rfl (j_skip (j_nx ⟨_, _, _, _, _, rfl⟩)))))))))))) (fun st1 s0 h0 => by
  obtain ⟨j2, j3, j4, j5, j6, rfl⟩ := h0
  exact (j_seq (j_retT (ref_up (r_var rfl)))))))))))
def b__law_world : S :=
  (.seq (.ifS (.andE (.op2 .gt (.var 2) (.cst (.int 3))) (.oneE (.op2 .eq (.call "_law_drawn" f__law_drawn (.cons (.var 0) (.cons (.op2 .add (.var 1) (.cst (.int 64))) (.cons (.cst (.int 4)) .nil)))) (.cst (.int 0)))))
    (.seq (.set 3 (.op2 .add (.cst (.int 1)) (.call "_law_drawn" f__law_drawn (.cons (.var 0) (.cons (.op2 .add (.var 1) (.cst (.int 65))) (.cons (.cst (.int 2)) .nil))))))
    (.seq (.set 4 (.tup (.cons (.tup (.cons (.var 3) (.cons (.tup (.cons (.cst (.int 1)) (.cons (.cst (.int 0)) .nil))) .nil))) (.cons (.tup (.cons (.var 3) (.cons (.tup (.cons (.cst (.int 0)) (.cons (.cst (.int 1)) .nil))) .nil))) .nil))))
    (.seq (.ret (.tup (.cons (.tup (.cons (.tup (.cons (.var 3) (.cons (.tup (.cons (.cst (.int 0)) (.cons (.cst (.int 1)) .nil))) .nil))) (.cons (.tup (.cons (.var 3) (.cons (.tup (.cons (.cst (.int 1)) (.cons (.cst (.int 0)) .nil))) .nil))) .nil))) (.cons (.var 4) (.cons (.tup (.cons (.tup (.cons (.cst (.int 0)) (.cons (.cst (.int 0)) (.cons (.cst (.int 2)) .nil)))) (.cons (.tup (.cons (.cst (.int 0)) (.cons (.cst (.int 1)) (.cons (.cst (.int 2)) .nil)))) (.cons (.tup (.cons (.cst (.int 1)) (.cons (.cst (.int 0)) (.cons (.cst (.int 2)) .nil)))) (.cons (.tup (.cons (.cst (.int 1)) (.cons (.cst (.int 1)) (.cons (.cst (.int 2)) .nil)))) .nil))))) .nil)))))
    .skip)))
    .skip)
    (.seq (.set 5 (.op2 .add (.cst (.int 1)) (.call "_law_drawn" f__law_drawn (.cons (.var 0) (.cons (.var 1) (.cons (.cst (.int 3)) .nil))))))
    (.seq (.set 6 (.op2 .add (.cst (.int 1)) (.call "_law_drawn" f__law_drawn (.cons (.var 0) (.cons (.op2 .add (.var 1) (.cst (.int 1))) (.cons (.cst (.int 3)) .nil))))))
    (.seq (.setO 7 (.lst .nil))
    (.seq (.forS [] (.name 8) (.itRange (.op2 .mul (.var 5) (.var 6)))
    (.seq (.ifS (.andE (.op2 .lt (.op1 .len (.var 7)) (.var 2)) (.oneE (.op2 .gt (.call "_law_drawn" f__law_drawn (.cons (.var 0) (.cons (.op2 .add (.op2 .add (.var 1) (.cst (.int 2))) (.var 8)) (.cons (.cst (.int 4)) .nil)))) (.cst (.int 0)))))
    (.seq (.app 7 (.tup (.cons (.op2 .fdiv (.var 8) (.var 6)) (.cons (.op2 .mod (.var 8) (.var 6)) (.cons (.op2 .add (.cst (.int 1)) (.call "_law_drawn" f__law_drawn (.cons (.var 0) (.cons (.op2 .add (.op2 .add (.var 1) (.cst (.int 12))) (.var 8)) (.cons (.cst (.int 2)) .nil))))) .nil)))))
    .skip)
    .skip)
    .skip))
    (.seq (.set 9 (.call "_law_orders" f__law_orders (.cons (.var 0) (.cons (.op2 .add (.var 1) (.cst (.int 24))) (.cons (.lc [12] (.name 12) (.itRange (.var 5)) (.cst (.bool true)) (.lc [13] (.name 13) (.itSeq (.var 7)) (.op2 .eq (.op2 .idx (.var 13) (.cst (.int 0))) (.var 12)) (.op2 .idx (.var 13) (.cst (.int 1))))) .nil)))))
    (.seq (.set 10 (.call "_law_orders" f__law_orders (.cons (.var 0) (.cons (.op2 .add (.var 1) (.cst (.int 40))) (.cons (.lc [14] (.name 14) (.itRange (.var 6)) (.cst (.bool true)) (.lc [13] (.name 13) (.itSeq (.var 7)) (.op2 .eq (.op2 .idx (.var 13) (.cst (.int 1))) (.var 14)) (.op2 .idx (.var 13) (.cst (.int 0))))) .nil)))))
    (.seq (.set 11 (.op1 .tupleOf (.lc [8, 15] (.tup [8, 15]) (.itEnum (.var 9)) (.cst (.bool true)) (.tup (.cons (.call "_law_drawn" f__law_drawn (.cons (.var 0) (.cons (.op2 .add (.op2 .add (.var 1) (.cst (.int 56))) (.var 8)) (.cons (.cst (.int 4)) .nil)))) (.cons (.var 15) .nil))))))
    (.seq (.set 4 (.op1 .tupleOf (.lc [8, 15] (.tup [8, 15]) (.itEnum (.var 10)) (.cst (.bool true)) (.tup (.cons (.call "_law_drawn" f__law_drawn (.cons (.var 0) (.cons (.op2 .add (.op2 .add (.var 1) (.cst (.int 60))) (.var 8)) (.cons (.cst (.int 4)) .nil)))) (.cons (.var 15) .nil))))))
    (.seq (.ret (.tup (.cons (.var 11) (.cons (.var 4) (.cons (.op1 .tupleOf (.var 7)) .nil)))))
    .skip))))))))))
def f__law_world : Fn := fnD 3 16 b__law_world
noncomputable def n__law_world (v_script : Scr) (v_at : Int) (v_most : Int) : R (Wd) :=
  ((((R.ok v_most) >>= fun q1 => (R.ok (3 : Int)) >>= fun q2 => O2.f .gt q1 q2) >>= fun q10 => if q10 then (((upR (R.ok v_script) : R (Scr)) >>= fun q5 => (upR ((R.ok v_at) >>= fun q3 => (R.ok (64 : Int)) >>= fun q4 => O2.f .add q3 q4) : R (Int)) >>= fun q6 => (upR (R.ok (4 : Int)) : R (Int)) >>= fun q7 => n__law_drawn q5 q6 q7) >>= fun q8 => (R.ok (0 : Int)) >>= fun q9 => O2.f .eq q8 q9) else R.ok false) >>= fun q11 => if q11 then (((R.ok (1 : Int)) >>= fun q17 => ((upR (R.ok v_script) : R (Scr)) >>= fun q14 => (upR ((R.ok v_at) >>= fun q12 => (R.ok (65 : Int)) >>= fun q13 => O2.f .add q12 q13) : R (Int)) >>= fun q15 => (upR (R.ok (2 : Int)) : R (Int)) >>= fun q16 => n__law_drawn q14 q15 q16) >>= fun q18 => O2.f .add q17 q18) >>= fun v_each_here =>
  ((((R.ok v_each_here) >>= fun q21 => ((R.ok (1 : Int)) >>= fun q19 => (R.ok (0 : Int)) >>= fun q20 => R.ok ((q19, q20))) >>= fun q22 => R.ok ((q21, q22))) >>= fun q27 => ((R.ok v_each_here) >>= fun q25 => ((R.ok (0 : Int)) >>= fun q23 => (R.ok (1 : Int)) >>= fun q24 => R.ok ((q23, q24))) >>= fun q26 => R.ok ((q25, q26))) >>= fun q28 => R.ok ((q27, q28))) >>= fun v_takers =>
  (upR ((((R.ok v_each_here) >>= fun q31 => ((R.ok (0 : Int)) >>= fun q29 => (R.ok (1 : Int)) >>= fun q30 => R.ok ((q29, q30))) >>= fun q32 => R.ok ((q31, q32))) >>= fun q37 => ((R.ok v_each_here) >>= fun q35 => ((R.ok (1 : Int)) >>= fun q33 => (R.ok (0 : Int)) >>= fun q34 => R.ok ((q33, q34))) >>= fun q36 => R.ok ((q35, q36))) >>= fun q38 => R.ok ((q37, q38))) >>= fun q55 => (R.ok v_takers) >>= fun q56 => (((R.ok (0 : Int)) >>= fun q39 => (R.ok (0 : Int)) >>= fun q40 => (R.ok (2 : Int)) >>= fun q41 => R.ok (T3.mk q39 q40 q41)) >>= fun q51 => ((R.ok (0 : Int)) >>= fun q42 => (R.ok (1 : Int)) >>= fun q43 => (R.ok (2 : Int)) >>= fun q44 => R.ok (T3.mk q42 q43 q44)) >>= fun q52 => ((R.ok (1 : Int)) >>= fun q45 => (R.ok (0 : Int)) >>= fun q46 => (R.ok (2 : Int)) >>= fun q47 => R.ok (T3.mk q45 q46 q47)) >>= fun q53 => ((R.ok (1 : Int)) >>= fun q48 => (R.ok (1 : Int)) >>= fun q49 => (R.ok (2 : Int)) >>= fun q50 => R.ok (T3.mk q48 q49 q50)) >>= fun q54 => R.ok (T4.mk q51 q52 q53 q54)) >>= fun q57 => R.ok (T3.mk q55 q56 q57)) : R (Wd))))
  else (((R.ok (1 : Int)) >>= fun q61 => ((upR (R.ok v_script) : R (Scr)) >>= fun q58 => (upR (R.ok v_at) : R (Int)) >>= fun q59 => (upR (R.ok (3 : Int)) : R (Int)) >>= fun q60 => n__law_drawn q58 q59 q60) >>= fun q62 => O2.f .add q61 q62) >>= fun v_many =>
  (((R.ok (1 : Int)) >>= fun q68 => ((upR (R.ok v_script) : R (Scr)) >>= fun q65 => (upR ((R.ok v_at) >>= fun q63 => (R.ok (1 : Int)) >>= fun q64 => O2.f .add q63 q64) : R (Int)) >>= fun q66 => (upR (R.ok (3 : Int)) : R (Int)) >>= fun q67 => n__law_drawn q65 q66 q67) >>= fun q69 => O2.f .add q68 q69) >>= fun v_size =>
  ((upR (R.ok NilL.v) : R (List Wy)) >>= fun v_ways =>
  ((((R.ok v_many) >>= fun q72 => (R.ok v_size) >>= fun q73 => O2.f .mul q72 q73) >>= fun q74 => rangeN 0 q74) >>= fun q160 => forN q160 v_ways (fun st70 p75 =>
  (((((R.ok st70) >>= O1.f .len) >>= fun q76 => (R.ok v_most) >>= fun q77 => O2.f .lt q76 q77) >>= fun q87 => if q87 then (((upR (R.ok v_script) : R (Scr)) >>= fun q82 => (upR (((R.ok v_at) >>= fun q78 => (R.ok (2 : Int)) >>= fun q79 => O2.f .add q78 q79) >>= fun q80 => (R.ok p75) >>= fun q81 => O2.f .add q80 q81) : R (Int)) >>= fun q83 => (upR (R.ok (4 : Int)) : R (Int)) >>= fun q84 => n__law_drawn q82 q83 q84) >>= fun q85 => (R.ok (0 : Int)) >>= fun q86 => O2.f .gt q85 q86) else R.ok false) >>= fun q88 => if q88 then ((((R.ok p75) >>= fun q91 => (R.ok v_size) >>= fun q92 => O2.f .fdiv q91 q92) >>= fun q104 => ((R.ok p75) >>= fun q93 => (R.ok v_size) >>= fun q94 => O2.f .mod q93 q94) >>= fun q105 => ((R.ok (1 : Int)) >>= fun q102 => ((upR (R.ok v_script) : R (Scr)) >>= fun q99 => (upR (((R.ok v_at) >>= fun q95 => (R.ok (12 : Int)) >>= fun q96 => O2.f .add q95 q96) >>= fun q97 => (R.ok p75) >>= fun q98 => O2.f .add q97 q98) : R (Int)) >>= fun q100 => (upR (R.ok (2 : Int)) : R (Int)) >>= fun q101 => n__law_drawn q99 q100 q101) >>= fun q103 => O2.f .add q102 q103) >>= fun q106 => R.ok (T3.mk q104 q105 q106)) >>= fun q89 => appN st70 q89 >>= fun v_ways =>
  (R.ok v_ways))
  else (R.ok st70))) >>= fun st70 =>
  (((upR (R.ok v_script) : R (Scr)) >>= fun q116 => (upR ((R.ok v_at) >>= fun q107 => (R.ok (24 : Int)) >>= fun q108 => O2.f .add q107 q108) : R (Int)) >>= fun q117 => (upR (((R.ok v_many) >>= fun q109 => rangeN 0 q109) >>= fun q111 => mapN q111 (fun p110 => (((R.ok st70) >>= SeqN.f) >>= fun q113 => lcN q113 (fun p112 => (((R.ok p112) >>= OC.f .idx 0) >>= fun q114 => (R.ok p110) >>= fun q115 => O2.f .eq q114 q115)) (fun p112 => ((R.ok p112) >>= OC.f .idx 1))))) : R (List (List Int))) >>= fun q118 => n__law_orders q116 q117 q118) >>= fun v_mine =>
  (((upR (R.ok v_script) : R (Scr)) >>= fun q128 => (upR ((R.ok v_at) >>= fun q119 => (R.ok (40 : Int)) >>= fun q120 => O2.f .add q119 q120) : R (Int)) >>= fun q129 => (upR (((R.ok v_size) >>= fun q121 => rangeN 0 q121) >>= fun q123 => mapN q123 (fun p122 => (((R.ok st70) >>= SeqN.f) >>= fun q125 => lcN q125 (fun p124 => (((R.ok p124) >>= OC.f .idx 1) >>= fun q126 => (R.ok p122) >>= fun q127 => O2.f .eq q126 q127)) (fun p124 => ((R.ok p124) >>= OC.f .idx 0))))) : R (List (List Int))) >>= fun q130 => n__law_orders q128 q129 q130) >>= fun v_yours =>
  (((((R.ok v_mine) >>= fun q131 => SeqN.f q131 >>= fun q132 => R.ok (enumN q132)) >>= fun q134 => mapN q134 (fun p133 => (((upR (R.ok v_script) : R (Scr)) >>= fun q139 => (upR (((R.ok v_at) >>= fun q135 => (R.ok (56 : Int)) >>= fun q136 => O2.f .add q135 q136) >>= fun q137 => (R.ok p133.1) >>= fun q138 => O2.f .add q137 q138) : R (Int)) >>= fun q140 => (upR (R.ok (4 : Int)) : R (Int)) >>= fun q141 => n__law_drawn q139 q140 q141) >>= fun q142 => (R.ok p133.2) >>= fun q143 => R.ok ((q142, q143))))) >>= O1.f .tupleOf) >>= fun v_givers =>
  (((((R.ok v_yours) >>= fun q144 => SeqN.f q144 >>= fun q145 => R.ok (enumN q145)) >>= fun q147 => mapN q147 (fun p146 => (((upR (R.ok v_script) : R (Scr)) >>= fun q152 => (upR (((R.ok v_at) >>= fun q148 => (R.ok (60 : Int)) >>= fun q149 => O2.f .add q148 q149) >>= fun q150 => (R.ok p146.1) >>= fun q151 => O2.f .add q150 q151) : R (Int)) >>= fun q153 => (upR (R.ok (4 : Int)) : R (Int)) >>= fun q154 => n__law_drawn q152 q153 q154) >>= fun q155 => (R.ok p146.2) >>= fun q156 => R.ok ((q155, q156))))) >>= O1.f .tupleOf) >>= fun v_takers =>
  (upR ((R.ok v_givers) >>= fun q157 => (R.ok v_takers) >>= fun q158 => ((R.ok st70) >>= O1.f .tupleOf) >>= fun q159 => R.ok (T3.mk q157 q158 q159)) : R (Wd)))))))))))
theorem r__law_world (v_script : Scr) (v_at : Int) (v_most : Int) : Ref (f__law_world [em v_script, em v_at, em v_most]) (n__law_world v_script v_at v_most) := by
  delta f__law_world b__law_world n__law_world
  exact r_fn rfl (j_env (s' := [some (em v_script), some (em v_at), some (em v_most), none, none, none, none, none, none, none, none, none, none, none, none, none]) rfl
  (j_seq (j_if (r_and (r_op2 (r_var rfl) (r_int _)) (r_one (r_op2 (r_call3 r__law_drawn (ref_up (r_var rfl)) (ref_up (r_op2 (r_var rfl) (r_int _))) (ref_up (r_int _))) (r_int _)))) (j_seq (j_set (r_op2 (r_int _) (r_call3 r__law_drawn (ref_up (r_var rfl)) (ref_up (r_op2 (r_var rfl) (r_int _))) (ref_up (r_int _)))) fun v_each_here =>
  (j_env (s' := [some (em v_script), some (em v_at), some (em v_most), some (em v_each_here), none, none, none, none, none, none, none, none, none, none, none, none]) rfl (j_seq (j_set (r_tup2 (r_tup2 (r_var rfl) (r_tup2 (r_int _) (r_int _))) (r_tup2 (r_var rfl) (r_tup2 (r_int _) (r_int _)))) fun v_takers =>
  (j_env (s' := [some (em v_script), some (em v_at), some (em v_most), some (em v_each_here), some (em v_takers), none, none, none, none, none, none, none, none, none, none, none]) rfl (j_seq (j_retT (ref_up (r_tup3 (r_tup2 (r_tup2 (r_var rfl) (r_tup2 (r_int _) (r_int _))) (r_tup2 (r_var rfl) (r_tup2 (r_int _) (r_int _)))) (r_var rfl) (r_tup4 (r_tup3 (r_int _) (r_int _) (r_int _)) (r_tup3 (r_int _) (r_int _) (r_int _)) (r_tup3 (r_int _) (r_int _) (r_int _)) (r_tup3 (r_int _) (r_int _) (r_int _)))))))))))))
  (j_skip (j_seq (j_set (r_op2 (r_int _) (r_call3 r__law_drawn (ref_up (r_var rfl)) (ref_up (r_var rfl)) (ref_up (r_int _)))) fun v_many =>
  (j_env (s' := [some (em v_script), some (em v_at), some (em v_most), none, none, some (em v_many), none, none, none, none, none, none, none, none, none, none]) rfl (j_seq (j_set (r_op2 (r_int _) (r_call3 r__law_drawn (ref_up (r_var rfl)) (ref_up (r_op2 (r_var rfl) (r_int _))) (ref_up (r_int _)))) fun v_size =>
  (j_env (s' := [some (em v_script), some (em v_at), some (em v_most), none, none, some (em v_many), some (em v_size), none, none, none, none, none, none, none, none, none]) rfl (j_seq (j_setO (ref_up r_lst0) fun v_ways =>
  (j_env (s' := [some (em v_script), some (em v_at), some (em v_most), none, none, some (em v_many), some (em v_size), some (em v_ways), none, none, none, none, none, none, none, none]) rfl (j_seq (j_for (ev := (fun st70 s' => ∃ j71, s' = [some (em v_script), some (em v_at), some (em v_most), none, none, some (em v_many), some (em v_size), some (em st70), j71, none, none, none, none, none, none, none])) (r_itRange (r_op2 (r_var rfl) (r_var rfl))) ⟨_, rfl⟩ (fun x s' => s'.set 8 (some (em x))) (fun _ _ _ h0 => by obtain ⟨j71, rfl⟩ := h0; rfl) (fun p75 st70 s0 h0 => by
  obtain ⟨j71, rfl⟩ := h0
  exact j_env (s' := [some (em v_script), some (em v_at), some (em v_most), none, none, some (em v_many), some (em v_size), some (em st70), some (em p75), none, none, none, none, none, none, none]) rfl (j_seq (j_if (r_and (r_op2 (r_op1 (r_var rfl)) (r_var rfl)) (r_one (r_op2 (r_call3 r__law_drawn (ref_up (r_var rfl)) (ref_up (r_op2 (r_op2 (r_var rfl) (r_int _)) (r_var rfl))) (ref_up (r_int _))) (r_int _)))) (j_seq (j_app rfl (r_tup3 (r_op2 (r_var rfl) (r_var rfl)) (r_op2 (r_var rfl) (r_var rfl)) (r_op2 (r_int _) (r_call3 r__law_drawn (ref_up (r_var rfl)) (ref_up (r_op2 (r_op2 (r_var rfl) (r_int _)) (r_var rfl))) (ref_up (r_int _))))) fun v_ways =>
  (j_env (s' := [some (em v_script), some (em v_at), some (em v_most), none, none, some (em v_many), some (em v_size), some (em v_ways), some (em p75), none, none, none, none, none, none, none]) rfl (j_skip (j_skip (j_nx ⟨_, rfl⟩))))))
  (j_skip (j_skip (j_nx ⟨_, rfl⟩)))))) (fun st70 s0 h0 => by
  obtain ⟨j71, rfl⟩ := h0
  exact (j_seq (j_set (r_call3 r__law_orders (ref_up (r_var rfl)) (ref_up (r_op2 (r_var rfl) (r_int _))) (ref_up (r_lcm (r_itRange (r_var rfl)) (fun p110 => [some (em v_script), some (em v_at), some (em v_most), none, none, some (em v_many), some (em v_size), some (em st70), j71, none, none, none, some (em p110), none, none, none]) (fun _ => rfl) (fun p110 => (r_lc (r_itSeq (r_var rfl)) (fun p112 => [some (em v_script), some (em v_at), some (em v_most), none, none, some (em v_many), some (em v_size), some (em st70), j71, none, none, none, some (em p110), some (em p112), none, none]) (fun _ => rfl) (fun p112 => (r_op2 (r_opc (r_var rfl)) (r_var rfl))) (fun p112 => (r_opc (r_var rfl)))))))) fun v_mine =>
  (j_env (s' := [some (em v_script), some (em v_at), some (em v_most), none, none, some (em v_many), some (em v_size), some (em st70), j71, some (em v_mine), none, none, none, none, none, none]) rfl (j_seq (j_set (r_call3 r__law_orders (ref_up (r_var rfl)) (ref_up (r_op2 (r_var rfl) (r_int _))) (ref_up (r_lcm (r_itRange (r_var rfl)) (fun p122 => [some (em v_script), some (em v_at), some (em v_most), none, none, some (em v_many), some (em v_size), some (em st70), j71, some (em v_mine), none, none, none, none, some (em p122), none]) (fun _ => rfl) (fun p122 => (r_lc (r_itSeq (r_var rfl)) (fun p124 => [some (em v_script), some (em v_at), some (em v_most), none, none, some (em v_many), some (em v_size), some (em st70), j71, some (em v_mine), none, none, none, some (em p124), some (em p122), none]) (fun _ => rfl) (fun p124 => (r_op2 (r_opc (r_var rfl)) (r_var rfl))) (fun p124 => (r_opc (r_var rfl)))))))) fun v_yours =>
  (j_env (s' := [some (em v_script), some (em v_at), some (em v_most), none, none, some (em v_many), some (em v_size), some (em st70), j71, some (em v_mine), some (em v_yours), none, none, none, none, none]) rfl (j_seq (j_set (r_op1 (r_lcm (r_itEnum (r_var rfl)) (fun p133 => [some (em v_script), some (em v_at), some (em v_most), none, none, some (em v_many), some (em v_size), some (em st70), some (em p133.1), some (em v_mine), some (em v_yours), none, none, none, none, some (em p133.2)]) (fun _ => rfl) (fun p133 => (r_tup2 (r_call3 r__law_drawn (ref_up (r_var rfl)) (ref_up (r_op2 (r_op2 (r_var rfl) (r_int _)) (r_var rfl))) (ref_up (r_int _))) (r_var rfl))))) fun v_givers =>
  (j_env (s' := [some (em v_script), some (em v_at), some (em v_most), none, none, some (em v_many), some (em v_size), some (em st70), j71, some (em v_mine), some (em v_yours), some (em v_givers), none, none, none, none]) rfl (j_seq (j_set (r_op1 (r_lcm (r_itEnum (r_var rfl)) (fun p146 => [some (em v_script), some (em v_at), some (em v_most), none, none, some (em v_many), some (em v_size), some (em st70), some (em p146.1), some (em v_mine), some (em v_yours), some (em v_givers), none, none, none, some (em p146.2)]) (fun _ => rfl) (fun p146 => (r_tup2 (r_call3 r__law_drawn (ref_up (r_var rfl)) (ref_up (r_op2 (r_op2 (r_var rfl) (r_int _)) (r_var rfl))) (ref_up (r_int _))) (r_var rfl))))) fun v_takers =>
  (j_env (s' := [some (em v_script), some (em v_at), some (em v_most), none, some (em v_takers), some (em v_many), some (em v_size), some (em st70), j71, some (em v_mine), some (em v_yours), some (em v_givers), none, none, none, none]) rfl (j_seq (j_retT (ref_up (r_tup3 (r_var rfl) (r_var rfl) (r_op1 (r_var rfl))))))))))))))))))))))))))))))))))
def b_need_world : S :=
  (.seq (.ifS (.notE (.call "is_world" f_is_world (.cons (.var 0) .nil)))
    (.seq (.raise "NoWorld" 0)
    .skip)
    .skip)
    .skip)
def f_need_world : Fn := fnD 1 1 b_need_world
noncomputable def n_need_world (v_world : D) : R (Unit) :=
  ((((upR (R.ok v_world) : R (D)) >>= n_is_world) >>= fun q2 => R.ok (!q2)) >>= fun q3 => if q3 then (R.ex 0)
  else (R.ok ()))
theorem r_need_world (v_world : D) : Ref (f_need_world [em v_world]) (n_need_world v_world) := by
  delta f_need_world b_need_world n_need_world
  exact r_fnU rfl (j_env (s' := [some (em v_world)]) rfl
  (j_seq (j_if (r_not (r_call1 r_is_world (ref_up (r_var rfl)))) (j_seq j_raise)
  (j_skip (j_skip j_endU)))))
def b_used : S :=
  (.seq (.ret (.op1 .sum (.lc [4, 5] (.tup [4, 5]) (.itZip (.var 1) (.op2 .idx (.var 0) (.cst (.int 2)))) (.op2 .eq (.op2 .idx (.var 5) (.var 2)) (.var 3)) (.var 4))))
    .skip)
def f_used : Fn := fnD 4 6 b_used
noncomputable def n_used (v_world : Wd) (v_plan : Plan) (v_side : Int) (v_place : Int) : R (Int) :=
  (upR ((((R.ok v_plan) >>= fun q1 => ((R.ok v_world) >>= OC.f .idx 2) >>= fun q2 => SeqN.f q1 >>= fun q3 => SeqN.f q2 >>= fun q4 => R.ok (List.zip q3 q4)) >>= fun q6 => lcN q6 (fun p5 => (((R.ok p5.2) >>= fun q7 => (R.ok v_side) >>= fun q8 => O2.f .idx q7 q8) >>= fun q9 => (R.ok v_place) >>= fun q10 => O2.f .eq q9 q10)) (fun p5 => (R.ok p5.1))) >>= O1.f .sum) : R (Int))
theorem r_used (v_world : Wd) (v_plan : Plan) (v_side : Int) (v_place : Int) : Ref (f_used [em v_world, em v_plan, em v_side, em v_place]) (n_used v_world v_plan v_side v_place) := by
  delta f_used b_used n_used
  exact r_fn rfl (j_env (s' := [some (em v_world), some (em v_plan), some (em v_side), some (em v_place), none, none]) rfl
  (j_seq (j_retT (ref_up (r_op1 (r_lc (r_itZip (r_var rfl) (r_opc (r_var rfl))) (fun p5 => [some (em v_world), some (em v_plan), some (em v_side), some (em v_place), some (em p5.1), some (em p5.2)]) (fun _ => rfl) (fun p5 => (r_op2 (r_op2 (r_var rfl) (r_var rfl)) (r_var rfl))) (fun p5 => (r_var rfl))))))))
def b_is_plan : S :=
  (.seq (.ifS (.orE (.notE (.op1 (.isInst .tuple) (.var 1))) (.oneE (.op2 .ne (.op1 .len (.var 1)) (.op1 .len (.op2 .idx (.var 0) (.cst (.int 2)))))))
    (.seq (.ret (.cst (.bool false)))
    .skip)
    .skip)
    (.seq (.ifS (.notE (.op1 .all (.lc [3, 4] (.tup [3, 4]) (.itZip (.var 1) (.op2 .idx (.var 0) (.cst (.int 2)))) (.cst (.bool true)) (.call "is_number" f_is_number (.cons (.var 3) (.cons (.cst (.int 0)) (.cons (.op2 .idx (.var 4) (.cst (.int 2))) .nil)))))))
    (.seq (.ret (.cst (.bool false)))
    .skip)
    .skip)
    (.seq (.forS [] (.name 2) (.itRange (.cst (.int 2)))
    (.seq (.ifS (.notE (.op1 .all (.lc [5, 6] (.tup [5, 6]) (.itEnum (.op2 .idx (.var 0) (.var 2))) (.cst (.bool true)) (.op2 .le (.call "used" f_used (.cons (.var 0) (.cons (.var 1) (.cons (.var 2) (.cons (.var 5) .nil))))) (.op2 .idx (.var 6) (.cst (.int 0)))))))
    (.seq (.ret (.cst (.bool false)))
    .skip)
    .skip)
    .skip))
    (.seq (.ret (.cst (.bool true)))
    .skip))))
def f_is_plan : Fn := fnD 2 7 b_is_plan
noncomputable def n_is_plan (v_world : Wd) (v_thing : D) : R (Bool) :=
  (((((upR (R.ok v_thing) : R (D)) >>= O1.f (.isInst .tuple)) >>= fun q1 => R.ok (!q1)) >>= fun q4 => if q4 then R.ok true else (((R.ok v_thing) >>= O1.f .len) >>= fun q2 => (((R.ok v_world) >>= OC.f .idx 2) >>= O1.f .len) >>= fun q3 => O2.f .ne q2 q3)) >>= fun q5 => if q5 then (upR (R.ok false) : R (Bool))
  else ((((((R.ok v_thing) >>= fun q6 => ((R.ok v_world) >>= OC.f .idx 2) >>= fun q7 => SeqN.f q6 >>= fun q8 => SeqN.f q7 >>= fun q9 => R.ok (List.zip q8 q9)) >>= fun q11 => mapN q11 (fun p10 => ((upR (R.ok p10.1) : R (D)) >>= fun q12 => (upR (R.ok (0 : Int)) : R (Int)) >>= fun q13 => (upR ((R.ok p10.2) >>= OC.f .idx 2) : R (Int)) >>= fun q14 => n_is_number q12 q13 q14))) >>= O1.f .all) >>= fun q15 => R.ok (!q15)) >>= fun q16 => if q16 then (upR (R.ok false) : R (Bool))
  else (((R.ok (2 : Int)) >>= fun q19 => rangeN 0 q19) >>= fun q36 => forX (ρ := Bool) q36 () (fun st17 p20 =>
  (((((((R.ok v_world) >>= fun q21 => (R.ok p20) >>= fun q22 => O2.f .idx q21 q22) >>= fun q23 => SeqN.f q23 >>= fun q24 => R.ok (enumN q24)) >>= fun q26 => mapN q26 (fun p25 => (((upR (R.ok v_world) : R (Wd)) >>= fun q27 => ((R.ok v_thing) >>= fun q => (castR (em q) : R (Plan))) >>= fun q28 => (upR (R.ok p20) : R (Int)) >>= fun q29 => (upR (R.ok p25.1) : R (Int)) >>= fun q30 => n_used q27 q28 q29 q30) >>= fun q31 => ((R.ok p25.2) >>= OC.f .idx 0) >>= fun q32 => O2.f .le q31 q32))) >>= O1.f .all) >>= fun q33 => R.ok (!q33)) >>= fun q34 => if q34 then ((upR (R.ok false) : R (Bool)) >>= fun q35 => R.ok (Nx.ret q35))
  else (R.ok (Nx.nx ())))) >>= fun q37 => nxE q37 (fun st17 =>
  (upR (R.ok true) : R (Bool))) id)))
theorem r_is_plan (v_world : Wd) (v_thing : D) : Ref (f_is_plan [em v_world, em v_thing]) (n_is_plan v_world v_thing) := by
  delta f_is_plan b_is_plan n_is_plan
  exact r_fn rfl (j_env (s' := [some (em v_world), some (em v_thing), none, none, none, none, none]) rfl
  (j_seq (j_if (r_or (r_not (r_op1 (ref_up (r_var rfl)))) (r_one (r_op2 (r_op1 (r_var rfl)) (r_op1 (r_opc (r_var rfl)))))) (j_seq (j_retT (ref_up (r_bool _))))
  (j_skip (j_seq (j_if (r_not (r_op1 (r_lcm (r_itZip (r_var rfl) (r_opc (r_var rfl))) (fun p10 => [some (em v_world), some (em v_thing), none, some (em p10.1), some (em p10.2), none, none]) (fun _ => rfl) (fun p10 => (r_call3 r_is_number (ref_up (r_var rfl)) (ref_up (r_int _)) (ref_up (r_opc (r_var rfl)))))))) (j_seq (j_retT (ref_up (r_bool _))))
  (j_skip (j_seq (j_forX (ev := (fun st17 s' => ∃ j18, s' = [some (em v_world), some (em v_thing), j18, none, none, none, none])) (r_itRange (r_int _)) ⟨_, rfl⟩ (fun x s' => s'.set 2 (some (em x))) (fun _ _ _ h0 => by obtain ⟨j18, rfl⟩ := h0; rfl) (fun p20 st17 s0 h0 => by
  obtain ⟨j18, rfl⟩ := h0
  exact j_env (s' := [some (em v_world), some (em v_thing), some (em p20), none, none, none, none]) rfl (j_seq (j_if (r_not (r_op1 (r_lcm (r_itEnum (r_op2 (r_var rfl) (r_var rfl))) (fun p25 => [some (em v_world), some (em v_thing), some (em p20), none, none, some (em p25.1), some (em p25.2)]) (fun _ => rfl) (fun p25 => (r_op2 (r_call4 r_used (ref_up (r_var rfl)) (ref_cast (r_var rfl)) (ref_up (r_var rfl)) (ref_up (r_var rfl))) (r_opc (r_var rfl))))))) (j_seq (j_ret (k := Nx.ret) (ref_up (r_bool _)) (fun _ => rfl)))
  (j_skip (j_skip (j_nxX ⟨_, rfl⟩)))))) (fun _ => rfl) (fun st17 s0 h0 => by
  obtain ⟨j18, rfl⟩ := h0
  exact (j_seq (j_retT (ref_up (r_bool _))))))))))))))
def b_need_plan : S :=
  (.seq (.exp (.call "need_world" f_need_world (.cons (.var 0) .nil)))
    (.seq (.ifS (.notE (.call "is_plan" f_is_plan (.cons (.var 0) (.cons (.var 1) .nil))))
    (.seq (.raise "NoPlan" 1)
    .skip)
    .skip)
    .skip))
def f_need_plan : Fn := fnD 2 2 b_need_plan
noncomputable def n_need_plan (v_world : D) (v_plan : D) : R (Unit) :=
  (((upR (R.ok v_world) : R (D)) >>= n_need_world) >>= fun q6 =>
  (((((R.ok v_world) >>= fun q => (castR (em q) : R (Wd))) >>= fun q2 => (upR (R.ok v_plan) : R (D)) >>= fun q3 => n_is_plan q2 q3) >>= fun q4 => R.ok (!q4)) >>= fun q5 => if q5 then (R.ex 1)
  else (R.ok ())))
theorem r_need_plan (v_world : D) (v_plan : D) : Ref (f_need_plan [em v_world, em v_plan]) (n_need_plan v_world v_plan) := by
  delta f_need_plan b_need_plan n_need_plan
  exact r_fnU rfl (j_env (s' := [some (em v_world), some (em v_plan)]) rfl
  (j_seq (j_exp (r_call1 r_need_world (ref_up (r_var rfl))) (j_seq (j_if (r_not (r_call2 r_is_plan (ref_cast (r_var rfl)) (ref_up (r_var rfl)))) (j_seq j_raise)
  (j_skip (j_skip j_endU)))))))
def b_turned : S :=
  (.seq (.exp (.call "need_world" f_need_world (.cons (.var 0) .nil)))
    (.seq (.ret (.tup (.cons (.op2 .idx (.var 0) (.cst (.int 1))) (.cons (.op2 .idx (.var 0) (.cst (.int 0))) (.cons (.op1 .tupleOf (.op1 .sorted (.lc [1, 2, 3] (.tup [1, 2, 3]) (.itSeq (.op2 .idx (.var 0) (.cst (.int 2)))) (.cst (.bool true)) (.tup (.cons (.var 2) (.cons (.var 1) (.cons (.var 3) .nil))))))) .nil)))))
    .skip))
def f_turned : Fn := fnD 1 4 b_turned
noncomputable def n_turned (v_world : Wd) : R (Wd) :=
  (((upR (R.ok v_world) : R (D)) >>= n_need_world) >>= fun q10 =>
  (upR (((R.ok v_world) >>= OC.f .idx 1) >>= fun q7 => ((R.ok v_world) >>= OC.f .idx 0) >>= fun q8 => ((((((R.ok v_world) >>= OC.f .idx 2) >>= SeqN.f) >>= fun q3 => mapN q3 (fun p2 => ((R.ok p2.b) >>= fun q4 => (R.ok p2.a) >>= fun q5 => (R.ok p2.c) >>= fun q6 => R.ok (T3.mk q4 q5 q6)))) >>= O1.f .sorted) >>= O1.f .tupleOf) >>= fun q9 => R.ok (T3.mk q7 q8 q9)) : R (Wd)))
theorem r_turned (v_world : Wd) : Ref (f_turned [em v_world]) (n_turned v_world) := by
  delta f_turned b_turned n_turned
  exact r_fn rfl (j_env (s' := [some (em v_world), none, none, none]) rfl
  (j_seq (j_exp (r_call1 r_need_world (ref_up (r_var rfl))) (j_seq (j_retT (ref_up (r_tup3 (r_opc (r_var rfl)) (r_opc (r_var rfl)) (r_op1 (r_op1 (r_lcm (r_itSeq (r_opc (r_var rfl))) (fun p2 => [some (em v_world), some (em p2.a), some (em p2.b), some (em p2.c)]) (fun _ => rfl) (fun p2 => (r_tup3 (r_var rfl) (r_var rfl) (r_var rfl)))))))))))))
def b_turned_plan : S :=
  (.seq (.exp (.call "need_plan" f_need_plan (.cons (.var 0) (.cons (.var 1) .nil))))
    (.seq (.set 2 (.op1 .sorted (.lc [3, 4] (.tup [3, 4]) (.itZip (.op2 .idx (.var 0) (.cst (.int 2))) (.var 1)) (.cst (.bool true)) (.tup (.cons (.op2 .idx (.var 3) (.cst (.int 1))) (.cons (.op2 .idx (.var 3) (.cst (.int 0))) (.cons (.var 4) .nil)))))))
    (.seq (.ret (.op1 .tupleOf (.lc [5] (.name 5) (.itSeq (.var 2)) (.cst (.bool true)) (.op2 .idx (.var 5) (.cst (.int 2))))))
    .skip)))
def f_turned_plan : Fn := fnD 2 6 b_turned_plan
noncomputable def n_turned_plan (v_world : Wd) (v_plan : Plan) : R (Plan) :=
  (((upR (R.ok v_world) : R (D)) >>= fun q1 => (upR (R.ok v_plan) : R (D)) >>= fun q2 => n_need_plan q1 q2) >>= fun q14 =>
  ((((((R.ok v_world) >>= OC.f .idx 2) >>= fun q3 => (R.ok v_plan) >>= fun q4 => SeqN.f q3 >>= fun q5 => SeqN.f q4 >>= fun q6 => R.ok (List.zip q5 q6)) >>= fun q8 => mapN q8 (fun p7 => (((R.ok p7.1) >>= OC.f .idx 1) >>= fun q9 => ((R.ok p7.1) >>= OC.f .idx 0) >>= fun q10 => (R.ok p7.2) >>= fun q11 => R.ok (T3.mk q9 q10 q11)))) >>= O1.f .sorted) >>= fun v_rows =>
  (upR ((((R.ok v_rows) >>= SeqN.f) >>= fun q13 => mapN q13 (fun p12 => ((R.ok p12) >>= OC.f .idx 2))) >>= O1.f .tupleOf) : R (Plan))))
theorem r_turned_plan (v_world : Wd) (v_plan : Plan) : Ref (f_turned_plan [em v_world, em v_plan]) (n_turned_plan v_world v_plan) := by
  delta f_turned_plan b_turned_plan n_turned_plan
  exact r_fn rfl (j_env (s' := [some (em v_world), some (em v_plan), none, none, none, none]) rfl
  (j_seq (j_exp (r_call2 r_need_plan (ref_up (r_var rfl)) (ref_up (r_var rfl))) (j_seq (j_set (r_op1 (r_lcm (r_itZip (r_opc (r_var rfl)) (r_var rfl)) (fun p7 => [some (em v_world), some (em v_plan), none, some (em p7.1), some (em p7.2), none]) (fun _ => rfl) (fun p7 => (r_tup3 (r_opc (r_var rfl)) (r_opc (r_var rfl)) (r_var rfl))))) fun v_rows =>
  (j_env (s' := [some (em v_world), some (em v_plan), some (em v_rows), none, none, none]) rfl (j_seq (j_retT (ref_up (r_op1 (r_lcm (r_itSeq (r_var rfl)) (fun p12 => [some (em v_world), some (em v_plan), some (em v_rows), none, none, some (em p12)]) (fun _ => rfl) (fun p12 => (r_opc (r_var rfl))))))))))))))
def b__law_used : S :=
  (.seq (.ret (.op1 .sum (.lc [4, 5] (.tup [4, 5]) (.itZip (.var 1) (.op2 .idx (.var 0) (.cst (.int 2)))) (.op2 .eq (.op2 .idx (.var 5) (.var 2)) (.var 3)) (.var 4))))
    .skip)
def f__law_used : Fn := fnD 4 6 b__law_used
noncomputable def n__law_used (v_world_here : Wd) (v_plan_here : Plan) (v_side : Int) (v_place : Int) : R (Int) :=
  (upR ((((R.ok v_plan_here) >>= fun q1 => ((R.ok v_world_here) >>= OC.f .idx 2) >>= fun q2 => SeqN.f q1 >>= fun q3 => SeqN.f q2 >>= fun q4 => R.ok (List.zip q3 q4)) >>= fun q6 => lcN q6 (fun p5 => (((R.ok p5.2) >>= fun q7 => (R.ok v_side) >>= fun q8 => O2.f .idx q7 q8) >>= fun q9 => (R.ok v_place) >>= fun q10 => O2.f .eq q9 q10)) (fun p5 => (R.ok p5.1))) >>= O1.f .sum) : R (Int))
theorem r__law_used (v_world_here : Wd) (v_plan_here : Plan) (v_side : Int) (v_place : Int) : Ref (f__law_used [em v_world_here, em v_plan_here, em v_side, em v_place]) (n__law_used v_world_here v_plan_here v_side v_place) := by
  delta f__law_used b__law_used n__law_used
  exact r_fn rfl (j_env (s' := [some (em v_world_here), some (em v_plan_here), some (em v_side), some (em v_place), none, none]) rfl
  (j_seq (j_retT (ref_up (r_op1 (r_lc (r_itZip (r_var rfl) (r_opc (r_var rfl))) (fun p5 => [some (em v_world_here), some (em v_plan_here), some (em v_side), some (em v_place), some (em p5.1), some (em p5.2)]) (fun _ => rfl) (fun p5 => (r_op2 (r_op2 (r_var rfl) (r_var rfl)) (r_var rfl))) (fun p5 => (r_var rfl))))))))
def b__law_fits : S :=
  (.seq (.forS [] (.name 2) (.itRange (.cst (.int 2)))
    (.seq (.forS [] (.tup [3, 4]) (.itEnum (.op2 .idx (.var 0) (.var 2)))
    (.seq (.ifS (.op2 .gt (.call "_law_used" f__law_used (.cons (.var 0) (.cons (.var 1) (.cons (.var 2) (.cons (.var 3) .nil))))) (.op2 .idx (.var 4) (.cst (.int 0))))
    (.seq (.ret (.cst (.bool false)))
    .skip)
    .skip)
    .skip))
    .skip))
    (.seq (.ret (.cst (.bool true)))
    .skip))
def f__law_fits : Fn := fnD 2 5 b__law_fits
noncomputable def n__law_fits (v_world_here : Wd) (v_plan_here : Plan) : R (Bool) :=
  (((R.ok (2 : Int)) >>= fun q5 => rangeN 0 q5) >>= fun q25 => forX (ρ := Bool) q25 () (fun st1 p6 =>
  ((((R.ok v_world_here) >>= fun q10 => (R.ok p6) >>= fun q11 => O2.f .idx q10 q11) >>= fun q12 => SeqN.f q12 >>= fun q13 => R.ok (enumN q13)) >>= fun q23 => forX (ρ := Bool) q23 () (fun st7 p14 =>
  ((((upR (R.ok v_world_here) : R (Wd)) >>= fun q15 => (upR (R.ok v_plan_here) : R (Plan)) >>= fun q16 => (upR (R.ok p6) : R (Int)) >>= fun q17 => (upR (R.ok p14.1) : R (Int)) >>= fun q18 => n__law_used q15 q16 q17 q18) >>= fun q19 => ((R.ok p14.2) >>= OC.f .idx 0) >>= fun q20 => O2.f .gt q19 q20) >>= fun q21 => if q21 then ((upR (R.ok false) : R (Bool)) >>= fun q22 => R.ok (Nx.ret q22))
  else (R.ok (Nx.nx ())))) >>= fun q24 => nxE q24 (fun st7 =>
  (R.ok (Nx.nx ()))) Nx.ret)) >>= fun q26 => nxE q26 (fun st1 =>
  (upR (R.ok true) : R (Bool))) id)
theorem r__law_fits (v_world_here : Wd) (v_plan_here : Plan) : Ref (f__law_fits [em v_world_here, em v_plan_here]) (n__law_fits v_world_here v_plan_here) := by
  delta f__law_fits b__law_fits n__law_fits
  exact r_fn rfl (j_env (s' := [some (em v_world_here), some (em v_plan_here), none, none, none]) rfl
  (j_seq (j_forX (ev := (fun st1 s' => ∃ j2 j3 j4, s' = [some (em v_world_here), some (em v_plan_here), j2, j3, j4])) (r_itRange (r_int _)) ⟨_, _, _, rfl⟩ (fun x s' => s'.set 2 (some (em x))) (fun _ _ _ h0 => by obtain ⟨j2, j3, j4, rfl⟩ := h0; rfl) (fun p6 st1 s0 h0 => by
  obtain ⟨j2, j3, j4, rfl⟩ := h0
  exact j_env (s' := [some (em v_world_here), some (em v_plan_here), some (em p6), j3, j4]) rfl (j_seq (j_forX (ev := (fun st7 s' => ∃ j8 j9, s' = [some (em v_world_here), some (em v_plan_here), some (em p6), j8, j9])) (r_itEnum (r_op2 (r_var rfl) (r_var rfl))) ⟨_, _, rfl⟩ (fun x s' => (s'.set 3 (some (em x.1))).set 4 (some (em x.2))) (fun _ _ _ h0 => by obtain ⟨j8, j9, rfl⟩ := h0; rfl) (fun p14 st7 s0 h0 => by
  obtain ⟨j8, j9, rfl⟩ := h0
  exact j_env (s' := [some (em v_world_here), some (em v_plan_here), some (em p6), some (em p14.1), some (em p14.2)]) rfl (j_seq (j_if (r_op2 (r_call4 r__law_used (ref_up (r_var rfl)) (ref_up (r_var rfl)) (ref_up (r_var rfl)) (ref_up (r_var rfl))) (r_opc (r_var rfl))) (j_seq (j_ret (k := Nx.ret) (ref_up (r_bool _)) (fun _ => rfl)))
  (j_skip (j_skip (j_nxX ⟨_, _, rfl⟩)))))) (fun _ => rfl) (fun st7 s0 h0 => by
  obtain ⟨j8, j9, rfl⟩ := h0
  exact (j_skip (j_nxX ⟨_, _, _, rfl⟩)))))) (fun _ => rfl) (fun st1 s0 h0 => by
  obtain ⟨j2, j3, j4, rfl⟩ := h0
  exact (j_seq (j_retT (ref_up (r_bool _))))))))
def b__law_plans : S :=
  (.seq (.set 1 (.lst (.cons (.tup .nil) .nil)))
    (.seq (.forS [] (.name 2) (.itSeq (.op2 .idx (.var 0) (.cst (.int 2))))
    (.seq (.set 3 (.lst .nil))
    (.seq (.forS [] (.name 4) (.itSeq (.var 1))
    (.seq (.set 3 (.op2 .add (.var 3) (.lc [5] (.name 5) (.itRange (.op2 .add (.op2 .idx (.var 2) (.cst (.int 2))) (.cst (.int 1)))) (.cst (.bool true)) (.op2 .add (.var 4) (.tup (.cons (.var 5) .nil))))))
    .skip))
    (.seq (.set 1 (.var 3))
    .skip))))
    (.seq (.ret (.lc [6] (.name 6) (.itSeq (.var 1)) (.call "_law_fits" f__law_fits (.cons (.var 0) (.cons (.var 6) .nil))) (.var 6)))
    .skip)))
def f__law_plans : Fn := fnD 1 7 b__law_plans
noncomputable def n__law_plans (v_world_here : Wd) : R (List Plan) :=
  ((upR ((upR (R.ok NilT.v) : R (Plan)) >>= fun q1 => (R.ok []) >>= fun q2 => R.ok (q1 :: q2)) : R (List Plan)) >>= fun v_found =>
  ((((R.ok v_world_here) >>= OC.f .idx 2) >>= SeqN.f) >>= fun q28 => forN q28 v_found (fun st3 p7 =>
  ((upR (R.ok NilL.v) : R (List Plan)) >>= fun v_longer =>
  (((R.ok st3) >>= SeqN.f) >>= fun q23 => forN q23 v_longer (fun st8 p10 =>
  ((upR ((R.ok st8) >>= fun q21 => (((((R.ok p7) >>= OC.f .idx 2) >>= fun q11 => (R.ok (1 : Int)) >>= fun q12 => O2.f .add q11 q12) >>= fun q13 => rangeN 0 q13) >>= fun q15 => mapN q15 (fun p14 => ((R.ok p10) >>= fun q19 => (((R.ok p14) >>= fun q16 => (R.ok []) >>= fun q17 => R.ok (q16 :: q17)) >>= fun q18 => R.ok (Tp.mk q18)) >>= fun q20 => O2.f .add q19 q20))) >>= fun q22 => O2.f .add q21 q22) : R (List Plan)) >>= fun v_longer =>
  (R.ok v_longer))) >>= fun st8 =>
  ((upR (R.ok st8) : R (List Plan)) >>= fun v_found =>
  (R.ok v_found))))) >>= fun st3 =>
  (upR (((R.ok st3) >>= SeqN.f) >>= fun q25 => lcN q25 (fun p24 => ((upR (R.ok v_world_here) : R (Wd)) >>= fun q26 => (upR (R.ok p24) : R (Plan)) >>= fun q27 => n__law_fits q26 q27)) (fun p24 => (R.ok p24))) : R (List Plan))))
theorem r__law_plans (v_world_here : Wd) : Ref (f__law_plans [em v_world_here]) (n__law_plans v_world_here) := by
  delta f__law_plans b__law_plans n__law_plans
  exact r_fn rfl (j_env (s' := [some (em v_world_here), none, none, none, none, none, none]) rfl
  (j_seq (j_set (ref_up (r_lst (r_cons (ref_up r_tup0) r_nil))) fun v_found =>
  (j_env (s' := [some (em v_world_here), some (em v_found), none, none, none, none, none]) rfl (j_seq (j_for (ev := (fun st3 s' => ∃ j4 j5 j6, s' = [some (em v_world_here), some (em st3), j4, j5, j6, none, none])) (r_itSeq (r_opc (r_var rfl))) ⟨_, _, _, rfl⟩ (fun x s' => s'.set 2 (some (em x))) (fun _ _ _ h0 => by obtain ⟨j4, j5, j6, rfl⟩ := h0; rfl) (fun p7 st3 s0 h0 => by
  obtain ⟨j4, j5, j6, rfl⟩ := h0
  exact j_env (s' := [some (em v_world_here), some (em st3), some (em p7), j5, j6, none, none]) rfl (j_seq (j_set (ref_up r_lst0) fun v_longer =>
  (j_env (s' := [some (em v_world_here), some (em st3), some (em p7), some (em v_longer), j6, none, none]) rfl (j_seq (j_for (ev := (fun st8 s' => ∃ j9, s' = [some (em v_world_here), some (em st3), some (em p7), some (em st8), j9, none, none])) (r_itSeq (r_var rfl)) ⟨_, rfl⟩ (fun x s' => s'.set 4 (some (em x))) (fun _ _ _ h0 => by obtain ⟨j9, rfl⟩ := h0; rfl) (fun p10 st8 s0 h0 => by
  obtain ⟨j9, rfl⟩ := h0
  exact j_env (s' := [some (em v_world_here), some (em st3), some (em p7), some (em st8), some (em p10), none, none]) rfl (j_seq (j_set (ref_up (r_op2 (r_var rfl) (r_lcm (r_itRange (r_op2 (r_opc (r_var rfl)) (r_int _))) (fun p14 => [some (em v_world_here), some (em st3), some (em p7), some (em st8), some (em p10), some (em p14), none]) (fun _ => rfl) (fun p14 => (r_op2 (r_var rfl) (r_tupl (r_cons (r_var rfl) r_nil))))))) fun v_longer =>
  (j_env (s' := [some (em v_world_here), some (em st3), some (em p7), some (em v_longer), some (em p10), none, none]) rfl (j_skip (j_nx ⟨_, rfl⟩)))))) (fun st8 s0 h0 => by
  obtain ⟨j9, rfl⟩ := h0
  exact (j_seq (j_set (ref_up (r_var rfl)) fun v_found =>
  (j_env (s' := [some (em v_world_here), some (em v_found), some (em p7), some (em st8), j9, none, none]) rfl (j_skip (j_nx ⟨_, _, _, rfl⟩)))))))))))) (fun st3 s0 h0 => by
  obtain ⟨j4, j5, j6, rfl⟩ := h0
  exact (j_seq (j_retT (ref_up (r_lc (r_itSeq (r_var rfl)) (fun p24 => [some (em v_world_here), some (em st3), j4, j5, j6, none, some (em p24)]) (fun _ => rfl) (fun p24 => (r_call2 r__law_fits (ref_up (r_var rfl)) (ref_up (r_var rfl)))) (fun p24 => (r_var rfl)))))))))))))
def b__law_plan : S :=
  (.seq (.set 3 (.tup .nil))
    (.seq (.forS [] (.tup [4, 5]) (.itEnum (.op2 .idx (.var 2) (.cst (.int 2))))
    (.seq (.set 6 (.op2 .add (.var 3) (.tup (.cons (.call "_law_drawn" f__law_drawn (.cons (.var 0) (.cons (.op2 .add (.var 1) (.var 4)) (.cons (.op2 .add (.op2 .idx (.var 5) (.cst (.int 2))) (.cst (.int 1))) .nil)))) .nil))))
    (.seq (.set 7 (.call "_law_fits" f__law_fits (.cons (.var 2) (.cons (.op2 .add (.var 6) (.op2 .mul (.tup (.cons (.cst (.int 0)) .nil)) (.op2 .sub (.op1 .len (.op2 .idx (.var 2) (.cst (.int 2)))) (.op1 .len (.var 6))))) .nil))))
    (.seq (.set 3 (.ite (.var 7) (.var 6) (.op2 .add (.var 3) (.tup (.cons (.cst (.int 0)) .nil)))))
    .skip))))
    (.seq (.ret (.var 3))
    .skip)))
def f__law_plan : Fn := fnD 3 8 b__law_plan
noncomputable def n__law_plan (v_script : Scr) (v_at : Int) (v_world_here : Wd) : R (Plan) :=
  ((upR (R.ok NilT.v) : R (Plan)) >>= fun v_found =>
  ((((R.ok v_world_here) >>= OC.f .idx 2) >>= fun q6 => SeqN.f q6 >>= fun q7 => R.ok (enumN q7)) >>= fun q38 => forN q38 v_found (fun st1 p8 =>
  (((R.ok st1) >>= fun q19 => ((((upR (R.ok v_script) : R (Scr)) >>= fun q13 => (upR ((R.ok v_at) >>= fun q9 => (R.ok p8.1) >>= fun q10 => O2.f .add q9 q10) : R (Int)) >>= fun q14 => (upR (((R.ok p8.2) >>= OC.f .idx 2) >>= fun q11 => (R.ok (1 : Int)) >>= fun q12 => O2.f .add q11 q12) : R (Int)) >>= fun q15 => n__law_drawn q13 q14 q15) >>= fun q16 => (R.ok []) >>= fun q17 => R.ok (q16 :: q17)) >>= fun q18 => R.ok (Tp.mk q18)) >>= fun q20 => O2.f .add q19 q20) >>= fun v_more =>
  (((upR (R.ok v_world_here) : R (Wd)) >>= fun q30 => (upR ((R.ok v_more) >>= fun q28 => ((((R.ok (0 : Int)) >>= fun q21 => (R.ok []) >>= fun q22 => R.ok (q21 :: q22)) >>= fun q23 => R.ok (Tp.mk q23)) >>= fun q26 => ((((R.ok v_world_here) >>= OC.f .idx 2) >>= O1.f .len) >>= fun q24 => ((R.ok v_more) >>= O1.f .len) >>= fun q25 => O2.f .sub q24 q25) >>= fun q27 => O2.f .mul q26 q27) >>= fun q29 => O2.f .add q28 q29) : R (Plan)) >>= fun q31 => n__law_fits q30 q31) >>= fun v_fit =>
  ((upR ((R.ok v_fit) >>= fun q37 => if q37 then (R.ok v_more) else ((R.ok st1) >>= fun q35 => (((R.ok (0 : Int)) >>= fun q32 => (R.ok []) >>= fun q33 => R.ok (q32 :: q33)) >>= fun q34 => R.ok (Tp.mk q34)) >>= fun q36 => O2.f .add q35 q36)) : R (Plan)) >>= fun v_found =>
  (R.ok v_found))))) >>= fun st1 =>
  (upR (R.ok st1) : R (Plan))))
theorem r__law_plan (v_script : Scr) (v_at : Int) (v_world_here : Wd) : Ref (f__law_plan [em v_script, em v_at, em v_world_here]) (n__law_plan v_script v_at v_world_here) := by
  delta f__law_plan b__law_plan n__law_plan
  exact r_fn rfl (j_env (s' := [some (em v_script), some (em v_at), some (em v_world_here), none, none, none, none, none]) rfl
  (j_seq (j_set (ref_up r_tup0) fun v_found =>
  (j_env (s' := [some (em v_script), some (em v_at), some (em v_world_here), some (em v_found), none, none, none, none]) rfl (j_seq (j_for (ev := (fun st1 s' => ∃ j2 j3 j4 j5, s' = [some (em v_script), some (em v_at), some (em v_world_here), some (em st1), j2, j3, j4, j5])) (r_itEnum (r_opc (r_var rfl))) ⟨_, _, _, _, rfl⟩ (fun x s' => (s'.set 4 (some (em x.1))).set 5 (some (em x.2))) (fun _ _ _ h0 => by obtain ⟨j2, j3, j4, j5, rfl⟩ := h0; rfl) (fun p8 st1 s0 h0 => by
  obtain ⟨j2, j3, j4, j5, rfl⟩ := h0
  exact j_env (s' := [some (em v_script), some (em v_at), some (em v_world_here), some (em st1), some (em p8.1), some (em p8.2), j4, j5]) rfl (j_seq (j_set (r_op2 (r_var rfl) (r_tupl (r_cons (r_call3 r__law_drawn (ref_up (r_var rfl)) (ref_up (r_op2 (r_var rfl) (r_var rfl))) (ref_up (r_op2 (r_opc (r_var rfl)) (r_int _)))) r_nil))) fun v_more =>
  (j_env (s' := [some (em v_script), some (em v_at), some (em v_world_here), some (em st1), some (em p8.1), some (em p8.2), some (em v_more), j5]) rfl (j_seq (j_set (r_call2 r__law_fits (ref_up (r_var rfl)) (ref_up (r_op2 (r_var rfl) (r_op2 (r_tupl (r_cons (r_int _) r_nil)) (r_op2 (r_op1 (r_opc (r_var rfl))) (r_op1 (r_var rfl))))))) fun v_fit =>
  (j_env (s' := [some (em v_script), some (em v_at), some (em v_world_here), some (em st1), some (em p8.1), some (em p8.2), some (em v_more), some (em v_fit)]) rfl (j_seq (j_set (ref_up (r_ite (r_var rfl) (r_var rfl) (r_op2 (r_var rfl) (r_tupl (r_cons (r_int _) r_nil))))) fun v_found =>
  (j_env (s' := [some (em v_script), some (em v_at), some (em v_world_here), some (em v_found), some (em p8.1), some (em p8.2), some (em v_more), some (em v_fit)]) rfl (j_skip (j_nx ⟨_, _, _, _, rfl⟩)))))))))))) (fun st1 s0 h0 => by
  obtain ⟨j2, j3, j4, j5, rfl⟩ := h0
  exact (j_seq (j_retT (ref_up (r_var rfl)))))))))))
def b_ways_liked : S :=
  (.seq (.set 3 (.lc [5] (.name 5) (.itSeq (.op2 .idx (.var 0) (.cst (.int 2)))) (.cst (.bool true)) (.op2 .to (.var 5) (.cst (.int 2)))))
    (.seq (.set 4 (.op2 .idx (.op2 .idx (.op2 .idx (.var 0) (.var 1)) (.var 2)) (.cst (.int 1))))
    (.seq (.ret (.lc [6] (.name 6) (.itSeq (.var 4)) (.cst (.bool true)) (.index (.var 3) (.ite (.op2 .eq (.var 1) (.cst (.int 0))) (.tup (.cons (.var 2) (.cons (.var 6) .nil))) (.tup (.cons (.var 6) (.cons (.var 2) .nil)))))))
    .skip)))
def f_ways_liked : Fn := fnD 3 7 b_ways_liked
noncomputable def n_ways_liked (v_world : Wd) (v_side : Int) (v_place : Int) : R (List Int) :=
  (((((R.ok v_world) >>= OC.f .idx 2) >>= SeqN.f) >>= fun q2 => mapN q2 (fun p1 => ((R.ok p1) >>= OC.f .to 2))) >>= fun v_pairs =>
  (((((R.ok v_world) >>= fun q3 => (R.ok v_side) >>= fun q4 => O2.f .idx q3 q4) >>= fun q5 => (R.ok v_place) >>= fun q6 => O2.f .idx q5 q6) >>= OC.f .idx 1) >>= fun v_likes =>
  (upR (((R.ok v_likes) >>= SeqN.f) >>= fun q8 => mapN q8 (fun p7 => ((R.ok v_pairs) >>= fun q16 => (((R.ok v_side) >>= fun q9 => (R.ok (0 : Int)) >>= fun q10 => O2.f .eq q9 q10) >>= fun q15 => if q15 then ((R.ok v_place) >>= fun q11 => (R.ok p7) >>= fun q12 => R.ok ((q11, q12))) else ((R.ok p7) >>= fun q13 => (R.ok v_place) >>= fun q14 => R.ok ((q13, q14)))) >>= fun q17 => Ix.f q16 q17))) : R (List Int))))
theorem r_ways_liked (v_world : Wd) (v_side : Int) (v_place : Int) : Ref (f_ways_liked [em v_world, em v_side, em v_place]) (n_ways_liked v_world v_side v_place) := by
  delta f_ways_liked b_ways_liked n_ways_liked
  exact r_fn rfl (j_env (s' := [some (em v_world), some (em v_side), some (em v_place), none, none, none, none]) rfl
  (j_seq (j_set (r_lcm (r_itSeq (r_opc (r_var rfl))) (fun p1 => [some (em v_world), some (em v_side), some (em v_place), none, none, some (em p1), none]) (fun _ => rfl) (fun p1 => (r_opc (r_var rfl)))) fun v_pairs =>
  (j_env (s' := [some (em v_world), some (em v_side), some (em v_place), some (em v_pairs), none, none, none]) rfl (j_seq (j_set (r_opc (r_op2 (r_op2 (r_var rfl) (r_var rfl)) (r_var rfl))) fun v_likes =>
  (j_env (s' := [some (em v_world), some (em v_side), some (em v_place), some (em v_pairs), some (em v_likes), none, none]) rfl (j_seq (j_retT (ref_up (r_lcm (r_itSeq (r_var rfl)) (fun p7 => [some (em v_world), some (em v_side), some (em v_place), some (em v_pairs), some (em v_likes), none, some (em p7)]) (fun _ => rfl) (fun p7 => (r_index (r_var rfl) (r_ite (r_op2 (r_var rfl) (r_int _)) (r_tup2 (r_var rfl) (r_var rfl)) (r_tup2 (r_var rfl) (r_var rfl))))))))))))))))
def b_need_place : S :=
  (.seq (.ifS (.notE (.call "is_number" f_is_number (.cons (.var 2) (.cons (.cst (.int 0)) (.cons (.op2 .sub (.op1 .len (.op2 .idx (.var 0) (.var 1))) (.cst (.int 1))) .nil)))))
    (.seq (.raise "NoPlace" 2)
    .skip)
    .skip)
    .skip)
def f_need_place : Fn := fnD 3 3 b_need_place
noncomputable def n_need_place (v_world : Wd) (v_side : Int) (v_place : D) : R (Unit) :=
  ((((upR (R.ok v_place) : R (D)) >>= fun q5 => (upR (R.ok (0 : Int)) : R (Int)) >>= fun q6 => (upR ((((R.ok v_world) >>= fun q1 => (R.ok v_side) >>= fun q2 => O2.f .idx q1 q2) >>= O1.f .len) >>= fun q3 => (R.ok (1 : Int)) >>= fun q4 => O2.f .sub q3 q4) : R (Int)) >>= fun q7 => n_is_number q5 q6 q7) >>= fun q8 => R.ok (!q8)) >>= fun q9 => if q9 then (R.ex 2)
  else (R.ok ()))
theorem r_need_place (v_world : Wd) (v_side : Int) (v_place : D) : Ref (f_need_place [em v_world, em v_side, em v_place]) (n_need_place v_world v_side v_place) := by
  delta f_need_place b_need_place n_need_place
  exact r_fnU rfl (j_env (s' := [some (em v_world), some (em v_side), some (em v_place)]) rfl
  (j_seq (j_if (r_not (r_call3 r_is_number (ref_up (r_var rfl)) (ref_up (r_int _)) (ref_up (r_op2 (r_op1 (r_op2 (r_var rfl) (r_var rfl))) (r_int _))))) (j_seq j_raise)
  (j_skip (j_skip j_endU)))))
def b_sent : S :=
  (.seq (.exp (.call "need_plan" f_need_plan (.cons (.var 0) (.cons (.var 1) .nil))))
    (.seq (.exp (.call "need_place" f_need_place (.cons (.var 0) (.cons (.cst (.int 0)) (.cons (.var 2) .nil)))))
    (.seq (.ret (.call "used" f_used (.cons (.var 0) (.cons (.var 1) (.cons (.cst (.int 0)) (.cons (.var 2) .nil))))))
    .skip)))
def f_sent : Fn := fnD 3 3 b_sent
noncomputable def n_sent (v_world : Wd) (v_plan : Plan) (v_giver : Int) : R (Int) :=
  (((upR (R.ok v_world) : R (D)) >>= fun q1 => (upR (R.ok v_plan) : R (D)) >>= fun q2 => n_need_plan q1 q2) >>= fun q11 =>
  (((upR (R.ok v_world) : R (Wd)) >>= fun q3 => (upR (R.ok (0 : Int)) : R (Int)) >>= fun q4 => (upR (R.ok v_giver) : R (D)) >>= fun q5 => n_need_place q3 q4 q5) >>= fun q10 =>
  (upR ((upR (R.ok v_world) : R (Wd)) >>= fun q6 => (upR (R.ok v_plan) : R (Plan)) >>= fun q7 => (upR (R.ok (0 : Int)) : R (Int)) >>= fun q8 => (upR (R.ok v_giver) : R (Int)) >>= fun q9 => n_used q6 q7 q8 q9) : R (Int))))
theorem r_sent (v_world : Wd) (v_plan : Plan) (v_giver : Int) : Ref (f_sent [em v_world, em v_plan, em v_giver]) (n_sent v_world v_plan v_giver) := by
  delta f_sent b_sent n_sent
  exact r_fn rfl (j_env (s' := [some (em v_world), some (em v_plan), some (em v_giver)]) rfl
  (j_seq (j_exp (r_call2 r_need_plan (ref_up (r_var rfl)) (ref_up (r_var rfl))) (j_seq (j_exp (r_call3 r_need_place (ref_up (r_var rfl)) (ref_up (r_int _)) (ref_up (r_var rfl))) (j_seq (j_retT (ref_up (r_call4 r_used (ref_up (r_var rfl)) (ref_up (r_var rfl)) (ref_up (r_int _)) (ref_up (r_var rfl)))))))))))
def b_taken : S :=
  (.seq (.exp (.call "need_plan" f_need_plan (.cons (.var 0) (.cons (.var 1) .nil))))
    (.seq (.exp (.call "need_place" f_need_place (.cons (.var 0) (.cons (.cst (.int 1)) (.cons (.var 2) .nil)))))
    (.seq (.ret (.call "used" f_used (.cons (.var 0) (.cons (.var 1) (.cons (.cst (.int 1)) (.cons (.var 2) .nil))))))
    .skip)))
def f_taken : Fn := fnD 3 3 b_taken
noncomputable def n_taken (v_world : Wd) (v_plan : Plan) (v_taker : Int) : R (Int) :=
  (((upR (R.ok v_world) : R (D)) >>= fun q1 => (upR (R.ok v_plan) : R (D)) >>= fun q2 => n_need_plan q1 q2) >>= fun q11 =>
  (((upR (R.ok v_world) : R (Wd)) >>= fun q3 => (upR (R.ok (1 : Int)) : R (Int)) >>= fun q4 => (upR (R.ok v_taker) : R (D)) >>= fun q5 => n_need_place q3 q4 q5) >>= fun q10 =>
  (upR ((upR (R.ok v_world) : R (Wd)) >>= fun q6 => (upR (R.ok v_plan) : R (Plan)) >>= fun q7 => (upR (R.ok (1 : Int)) : R (Int)) >>= fun q8 => (upR (R.ok v_taker) : R (Int)) >>= fun q9 => n_used q6 q7 q8 q9) : R (Int))))
theorem r_taken (v_world : Wd) (v_plan : Plan) (v_taker : Int) : Ref (f_taken [em v_world, em v_plan, em v_taker]) (n_taken v_world v_plan v_taker) := by
  delta f_taken b_taken n_taken
  exact r_fn rfl (j_env (s' := [some (em v_world), some (em v_plan), some (em v_taker)]) rfl
  (j_seq (j_exp (r_call2 r_need_plan (ref_up (r_var rfl)) (ref_up (r_var rfl))) (j_seq (j_exp (r_call3 r_need_place (ref_up (r_var rfl)) (ref_up (r_int _)) (ref_up (r_var rfl))) (j_seq (j_retT (ref_up (r_call4 r_used (ref_up (r_var rfl)) (ref_up (r_var rfl)) (ref_up (r_int _)) (ref_up (r_var rfl)))))))))))
def b_chosen : S :=
  (.seq (.set 4 (.op2 .idx (.op2 .idx (.op2 .idx (.var 0) (.var 1)) (.var 2)) (.cst (.int 0))))
    (.seq (.setO 5 (.op2 .mul (.lst (.cons (.cst (.int 0)) .nil)) (.op1 .len (.op2 .idx (.var 0) (.cst (.int 2))))))
    (.seq (.forS [] (.name 6) (.itSeq (.call "ways_liked" f_ways_liked (.cons (.var 0) (.cons (.var 1) (.cons (.var 2) .nil)))))
    (.seq (.put 5 (.var 6) (.op3 .min3 (.var 4) (.op2 .idx (.var 3) (.var 6)) (.op2 .idx (.op2 .idx (.op2 .idx (.var 0) (.cst (.int 2))) (.var 6)) (.cst (.int 2)))))
    (.seq (.set 4 (.op2 .sub (.var 4) (.op2 .idx (.var 5) (.var 6))))
    .skip)))
    (.seq (.ret (.op1 .tupleOf (.var 5)))
    .skip))))
def f_chosen : Fn := fnD 4 7 b_chosen
noncomputable def n_chosen (v_world : Wd) (v_side : Int) (v_place : Int) (v_offers : Plan) : R (Plan) :=
  (((((R.ok v_world) >>= fun q1 => (R.ok v_side) >>= fun q2 => O2.f .idx q1 q2) >>= fun q3 => (R.ok v_place) >>= fun q4 => O2.f .idx q3 q4) >>= OC.f .idx 0) >>= fun v_left =>
  ((((R.ok (0 : Int)) >>= fun q5 => (R.ok []) >>= fun q6 => R.ok (q5 :: q6)) >>= fun q7 => (((R.ok v_world) >>= OC.f .idx 2) >>= O1.f .len) >>= fun q8 => O2.f .mul q7 q8) >>= fun v_found =>
  ((((upR (R.ok v_world) : R (Wd)) >>= fun q11 => (upR (R.ok v_side) : R (Int)) >>= fun q12 => (upR (R.ok v_place) : R (Int)) >>= fun q13 => n_ways_liked q11 q12 q13) >>= SeqN.f) >>= fun q28 => forN q28 (v_found, v_left) (fun st9 p14 =>
  (((R.ok st9.2) >>= fun q19 => ((R.ok v_offers) >>= fun q15 => (R.ok p14) >>= fun q16 => O2.f .idx q15 q16) >>= fun q20 => ((((R.ok v_world) >>= OC.f .idx 2) >>= fun q17 => (R.ok p14) >>= fun q18 => O2.f .idx q17 q18) >>= OC.f .idx 2) >>= fun q21 => min3N q19 q20 q21) >>= fun q26 => (R.ok p14) >>= fun q27 => putN st9.1 q27 q26 >>= fun v_found =>
  (((R.ok st9.2) >>= fun q24 => ((R.ok v_found) >>= fun q22 => (R.ok p14) >>= fun q23 => O2.f .idx q22 q23) >>= fun q25 => O2.f .sub q24 q25) >>= fun v_left =>
  (R.ok (v_found, v_left))))) >>= fun st9 =>
  (upR ((R.ok st9.1) >>= O1.f .tupleOf) : R (Plan)))))
theorem r_chosen (v_world : Wd) (v_side : Int) (v_place : Int) (v_offers : Plan) : Ref (f_chosen [em v_world, em v_side, em v_place, em v_offers]) (n_chosen v_world v_side v_place v_offers) := by
  delta f_chosen b_chosen n_chosen
  exact r_fn rfl (j_env (s' := [some (em v_world), some (em v_side), some (em v_place), some (em v_offers), none, none, none]) rfl
  (j_seq (j_set (r_opc (r_op2 (r_op2 (r_var rfl) (r_var rfl)) (r_var rfl))) fun v_left =>
  (j_env (s' := [some (em v_world), some (em v_side), some (em v_place), some (em v_offers), some (em v_left), none, none]) rfl (j_seq (j_setO (r_op2 (r_lst (r_cons (r_int _) r_nil)) (r_op1 (r_opc (r_var rfl)))) fun v_found =>
  (j_env (s' := [some (em v_world), some (em v_side), some (em v_place), some (em v_offers), some (em v_left), some (em v_found), none]) rfl (j_seq (j_for (ev := (fun st9 s' => ∃ j10, s' = [some (em v_world), some (em v_side), some (em v_place), some (em v_offers), some (em st9.2), some (em st9.1), j10])) (r_itSeq (r_call3 r_ways_liked (ref_up (r_var rfl)) (ref_up (r_var rfl)) (ref_up (r_var rfl)))) ⟨_, rfl⟩ (fun x s' => s'.set 6 (some (em x))) (fun _ _ _ h0 => by obtain ⟨j10, rfl⟩ := h0; rfl) (fun p14 st9 s0 h0 => by
  obtain ⟨j10, rfl⟩ := h0
  exact j_env (s' := [some (em v_world), some (em v_side), some (em v_place), some (em v_offers), some (em st9.2), some (em st9.1), some (em p14)]) rfl (j_seq (j_put rfl (r_var rfl) (r_min3 (r_var rfl) (r_op2 (r_var rfl) (r_var rfl)) (r_opc (r_op2 (r_opc (r_var rfl)) (r_var rfl)))) fun v_found =>
  (j_env (s' := [some (em v_world), some (em v_side), some (em v_place), some (em v_offers), some (em st9.2), some (em v_found), some (em p14)]) rfl (j_seq (j_set (r_op2 (r_var rfl) (r_op2 (r_var rfl) (r_var rfl))) fun v_left =>
  (j_env (s' := [some (em v_world), some (em v_side), some (em v_place), some (em v_offers), some (em v_left), some (em v_found), some (em p14)]) rfl (j_skip (j_nx ⟨_, rfl⟩))))))))) (fun st9 s0 h0 => by
  obtain ⟨j10, rfl⟩ := h0
  exact (j_seq (j_retT (ref_up (r_op1 (r_var rfl)))))))))))))))
def b_wants : S :=
  (.seq (.ifS (.op2 .lt (.call "used" f_used (.cons (.var 0) (.cons (.var 1) (.cons (.var 2) (.cons (.var 3) .nil))))) (.op2 .idx (.op2 .idx (.op2 .idx (.var 0) (.var 2)) (.var 3)) (.cst (.int 0))))
    (.seq (.ret (.cst (.bool true)))
    .skip)
    .skip)
    (.seq (.set 5 (.call "ways_liked" f_ways_liked (.cons (.var 0) (.cons (.var 2) (.cons (.var 3) .nil)))))
    (.seq (.ret (.op1 .any (.lc [6] (.name 6) (.itSeq (.op2 .from_ (.var 5) (.op2 .add (.index (.var 5) (.var 4)) (.cst (.int 1))))) (.cst (.bool true)) (.op2 .gt (.op2 .idx (.var 1) (.var 6)) (.cst (.int 0))))))
    .skip)))
def f_wants : Fn := fnD 5 7 b_wants
noncomputable def n_wants (v_world : Wd) (v_plan : Plan) (v_side : Int) (v_place : Int) (v_way : Int) : R (Bool) :=
  ((((upR (R.ok v_world) : R (Wd)) >>= fun q1 => (upR (R.ok v_plan) : R (Plan)) >>= fun q2 => (upR (R.ok v_side) : R (Int)) >>= fun q3 => (upR (R.ok v_place) : R (Int)) >>= fun q4 => n_used q1 q2 q3 q4) >>= fun q9 => ((((R.ok v_world) >>= fun q5 => (R.ok v_side) >>= fun q6 => O2.f .idx q5 q6) >>= fun q7 => (R.ok v_place) >>= fun q8 => O2.f .idx q7 q8) >>= OC.f .idx 0) >>= fun q10 => O2.f .lt q9 q10) >>= fun q11 => if q11 then (upR (R.ok true) : R (Bool))
  else (((upR (R.ok v_world) : R (Wd)) >>= fun q12 => (upR (R.ok v_side) : R (Int)) >>= fun q13 => (upR (R.ok v_place) : R (Int)) >>= fun q14 => n_ways_liked q12 q13 q14) >>= fun v_row =>
  (upR (((((R.ok v_row) >>= fun q19 => (((R.ok v_row) >>= fun q15 => (R.ok v_way) >>= fun q16 => Ix.f q15 q16) >>= fun q17 => (R.ok (1 : Int)) >>= fun q18 => O2.f .add q17 q18) >>= fun q20 => O2.f .from_ q19 q20) >>= SeqN.f) >>= fun q22 => mapN q22 (fun p21 => (((R.ok v_plan) >>= fun q23 => (R.ok p21) >>= fun q24 => O2.f .idx q23 q24) >>= fun q25 => (R.ok (0 : Int)) >>= fun q26 => O2.f .gt q25 q26))) >>= O1.f .any) : R (Bool))))
theorem r_wants (v_world : Wd) (v_plan : Plan) (v_side : Int) (v_place : Int) (v_way : Int) : Ref (f_wants [em v_world, em v_plan, em v_side, em v_place, em v_way]) (n_wants v_world v_plan v_side v_place v_way) := by
  delta f_wants b_wants n_wants
  exact r_fn rfl (j_env (s' := [some (em v_world), some (em v_plan), some (em v_side), some (em v_place), some (em v_way), none, none]) rfl
  (j_seq (j_if (r_op2 (r_call4 r_used (ref_up (r_var rfl)) (ref_up (r_var rfl)) (ref_up (r_var rfl)) (ref_up (r_var rfl))) (r_opc (r_op2 (r_op2 (r_var rfl) (r_var rfl)) (r_var rfl)))) (j_seq (j_retT (ref_up (r_bool _))))
  (j_skip (j_seq (j_set (r_call3 r_ways_liked (ref_up (r_var rfl)) (ref_up (r_var rfl)) (ref_up (r_var rfl))) fun v_row =>
  (j_env (s' := [some (em v_world), some (em v_plan), some (em v_side), some (em v_place), some (em v_way), some (em v_row), none]) rfl (j_seq (j_retT (ref_up (r_op1 (r_lcm (r_itSeq (r_op2 (r_var rfl) (r_op2 (r_index (r_var rfl) (r_var rfl)) (r_int _)))) (fun p21 => [some (em v_world), some (em v_plan), some (em v_side), some (em v_place), some (em v_way), some (em v_row), some (em p21)]) (fun _ => rfl) (fun p21 => (r_op2 (r_op2 (r_var rfl) (r_var rfl)) (r_int _)))))))))))))))
def b_would_leave : S :=
  (.seq (.setT [3, 4, 5] (.op2 .idx (.op2 .idx (.var 0) (.cst (.int 2))) (.var 2)))
    (.seq (.ifS (.op2 .eq (.op2 .idx (.var 1) (.var 2)) (.var 5))
    (.seq (.ret (.cst (.bool false)))
    .skip)
    .skip)
    (.seq (.ret (.andE (.call "wants" f_wants (.cons (.var 0) (.cons (.var 1) (.cons (.cst (.int 0)) (.cons (.var 3) (.cons (.var 2) .nil)))))) (.oneE (.call "wants" f_wants (.cons (.var 0) (.cons (.var 1) (.cons (.cst (.int 1)) (.cons (.var 4) (.cons (.var 2) .nil)))))))))
    .skip)))
def f_would_leave : Fn := fnD 3 6 b_would_leave
noncomputable def n_would_leave (v_world : Wd) (v_plan : Plan) (v_way : Int) : R (Bool) :=
  ((((R.ok v_world) >>= OC.f .idx 2) >>= fun q1 => (R.ok v_way) >>= fun q2 => O2.f .idx q1 q2) >>= fun q20 => oR (Un3.f q20) >>= fun p3 =>
  ((((R.ok v_plan) >>= fun q4 => (R.ok v_way) >>= fun q5 => O2.f .idx q4 q5) >>= fun q6 => (R.ok p3.c) >>= fun q7 => O2.f .eq q6 q7) >>= fun q8 => if q8 then (upR (R.ok false) : R (Bool))
  else (upR (((upR (R.ok v_world) : R (Wd)) >>= fun q9 => (upR (R.ok v_plan) : R (Plan)) >>= fun q10 => (upR (R.ok (0 : Int)) : R (Int)) >>= fun q11 => (upR (R.ok p3.a) : R (Int)) >>= fun q12 => (upR (R.ok v_way) : R (Int)) >>= fun q13 => n_wants q9 q10 q11 q12 q13) >>= fun q19 => if q19 then ((upR (R.ok v_world) : R (Wd)) >>= fun q14 => (upR (R.ok v_plan) : R (Plan)) >>= fun q15 => (upR (R.ok (1 : Int)) : R (Int)) >>= fun q16 => (upR (R.ok p3.b) : R (Int)) >>= fun q17 => (upR (R.ok v_way) : R (Int)) >>= fun q18 => n_wants q14 q15 q16 q17 q18) else R.ok false) : R (Bool))))
theorem r_would_leave (v_world : Wd) (v_plan : Plan) (v_way : Int) : Ref (f_would_leave [em v_world, em v_plan, em v_way]) (n_would_leave v_world v_plan v_way) := by
  delta f_would_leave b_would_leave n_would_leave
  exact r_fn rfl (j_env (s' := [some (em v_world), some (em v_plan), some (em v_way), none, none, none]) rfl
  (j_seq (j_setT3 (r_op2 (r_opc (r_var rfl)) (r_var rfl)) fun p3 =>
  (j_env (s' := [some (em v_world), some (em v_plan), some (em v_way), some (em p3.a), some (em p3.b), some (em p3.c)]) rfl (j_seq (j_if (r_op2 (r_op2 (r_var rfl) (r_var rfl)) (r_var rfl)) (j_seq (j_retT (ref_up (r_bool _))))
  (j_skip (j_seq (j_retT (ref_up (r_and (r_call5 r_wants (ref_up (r_var rfl)) (ref_up (r_var rfl)) (ref_up (r_int _)) (ref_up (r_var rfl)) (ref_up (r_var rfl))) (r_one (r_call5 r_wants (ref_up (r_var rfl)) (ref_up (r_var rfl)) (ref_up (r_int _)) (ref_up (r_var rfl)) (ref_up (r_var rfl)))))))))))))))
def b_leaving : S :=
  (.seq (.exp (.call "need_plan" f_need_plan (.cons (.var 0) (.cons (.var 1) .nil))))
    (.seq (.ret (.lc [2] (.name 2) (.itRange (.op1 .len (.op2 .idx (.var 0) (.cst (.int 2))))) (.call "would_leave" f_would_leave (.cons (.var 0) (.cons (.var 1) (.cons (.var 2) .nil)))) (.var 2)))
    .skip))
def f_leaving : Fn := fnD 2 3 b_leaving
noncomputable def n_leaving (v_world : Wd) (v_plan : Plan) : R (List Int) :=
  (((upR (R.ok v_world) : R (D)) >>= fun q1 => (upR (R.ok v_plan) : R (D)) >>= fun q2 => n_need_plan q1 q2) >>= fun q9 =>
  (upR (((((R.ok v_world) >>= OC.f .idx 2) >>= O1.f .len) >>= fun q3 => rangeN 0 q3) >>= fun q5 => lcN q5 (fun p4 => ((upR (R.ok v_world) : R (Wd)) >>= fun q6 => (upR (R.ok v_plan) : R (Plan)) >>= fun q7 => (upR (R.ok p4) : R (Int)) >>= fun q8 => n_would_leave q6 q7 q8)) (fun p4 => (R.ok p4))) : R (List Int)))
theorem r_leaving (v_world : Wd) (v_plan : Plan) : Ref (f_leaving [em v_world, em v_plan]) (n_leaving v_world v_plan) := by
  delta f_leaving b_leaving n_leaving
  exact r_fn rfl (j_env (s' := [some (em v_world), some (em v_plan), none]) rfl
  (j_seq (j_exp (r_call2 r_need_plan (ref_up (r_var rfl)) (ref_up (r_var rfl))) (j_seq (j_retT (ref_up (r_lc (r_itRange (r_op1 (r_opc (r_var rfl)))) (fun p4 => [some (em v_world), some (em v_plan), some (em p4)]) (fun _ => rfl) (fun p4 => (r_call3 r_would_leave (ref_up (r_var rfl)) (ref_up (r_var rfl)) (ref_up (r_var rfl)))) (fun p4 => (r_var rfl)))))))))
def b_rests : S :=
  (.seq (.ret (.op2 .eq (.call "leaving" f_leaving (.cons (.var 0) (.cons (.var 1) .nil))) (.lst .nil)))
    .skip)
def f_rests : Fn := fnD 2 2 b_rests
noncomputable def n_rests (v_world : Wd) (v_plan : Plan) : R (Bool) :=
  (upR (((upR (R.ok v_world) : R (Wd)) >>= fun q1 => (upR (R.ok v_plan) : R (Plan)) >>= fun q2 => n_leaving q1 q2) >>= fun q3 => (R.ok NilL.v) >>= fun q4 => O2.f .eq q3 q4) : R (Bool))
theorem r_rests (v_world : Wd) (v_plan : Plan) : Ref (f_rests [em v_world, em v_plan]) (n_rests v_world v_plan) := by
  delta f_rests b_rests n_rests
  exact r_fn rfl (j_env (s' := [some (em v_world), some (em v_plan)]) rfl
  (j_seq (j_retT (ref_up (r_op2 (r_call2 r_leaving (ref_up (r_var rfl)) (ref_up (r_var rfl))) r_lst0)))))
def b_both_ends : S :=
  (.seq (.set 3 (.op2 .mul (.lst (.cons (.cst (.int 0)) .nil)) (.op1 .len (.op2 .idx (.var 0) (.cst (.int 2))))))
    (.seq (.forS [] (.name 4) (.itRange (.op1 .len (.op2 .idx (.var 0) (.var 1))))
    (.seq (.set 3 (.lc [5, 6] (.tup [5, 6]) (.itZip (.var 3) (.call "chosen" f_chosen (.cons (.var 0) (.cons (.var 1) (.cons (.var 4) (.cons (.var 2) .nil)))))) (.cst (.bool true)) (.op2 .add (.var 5) (.var 6))))
    .skip))
    (.seq (.ret (.op1 .tupleOf (.var 3)))
    .skip)))
def f_both_ends : Fn := fnD 3 7 b_both_ends
noncomputable def n_both_ends (v_world : Wd) (v_side : Int) (v_offers : Plan) : R (Plan) :=
  ((((R.ok (0 : Int)) >>= fun q1 => (R.ok []) >>= fun q2 => R.ok (q1 :: q2)) >>= fun q3 => (((R.ok v_world) >>= OC.f .idx 2) >>= O1.f .len) >>= fun q4 => O2.f .mul q3 q4) >>= fun v_found =>
  (((((R.ok v_world) >>= fun q7 => (R.ok v_side) >>= fun q8 => O2.f .idx q7 q8) >>= O1.f .len) >>= fun q9 => rangeN 0 q9) >>= fun q23 => forN q23 v_found (fun st5 p10 =>
  ((((R.ok st5) >>= fun q15 => ((upR (R.ok v_world) : R (Wd)) >>= fun q11 => (upR (R.ok v_side) : R (Int)) >>= fun q12 => (upR (R.ok p10) : R (Int)) >>= fun q13 => (upR (R.ok v_offers) : R (Plan)) >>= fun q14 => n_chosen q11 q12 q13 q14) >>= fun q16 => SeqN.f q15 >>= fun q17 => SeqN.f q16 >>= fun q18 => R.ok (List.zip q17 q18)) >>= fun q20 => mapN q20 (fun p19 => ((R.ok p19.1) >>= fun q21 => (R.ok p19.2) >>= fun q22 => O2.f .add q21 q22))) >>= fun v_found =>
  (R.ok v_found))) >>= fun st5 =>
  (upR ((R.ok st5) >>= O1.f .tupleOf) : R (Plan))))
theorem r_both_ends (v_world : Wd) (v_side : Int) (v_offers : Plan) : Ref (f_both_ends [em v_world, em v_side, em v_offers]) (n_both_ends v_world v_side v_offers) := by
  delta f_both_ends b_both_ends n_both_ends
  exact r_fn rfl (j_env (s' := [some (em v_world), some (em v_side), some (em v_offers), none, none, none, none]) rfl
  (j_seq (j_set (r_op2 (r_lst (r_cons (r_int _) r_nil)) (r_op1 (r_opc (r_var rfl)))) fun v_found =>
  (j_env (s' := [some (em v_world), some (em v_side), some (em v_offers), some (em v_found), none, none, none]) rfl (j_seq (j_for (ev := (fun st5 s' => ∃ j6, s' = [some (em v_world), some (em v_side), some (em v_offers), some (em st5), j6, none, none])) (r_itRange (r_op1 (r_op2 (r_var rfl) (r_var rfl)))) ⟨_, rfl⟩ (fun x s' => s'.set 4 (some (em x))) (fun _ _ _ h0 => by obtain ⟨j6, rfl⟩ := h0; rfl) (fun p10 st5 s0 h0 => by
  obtain ⟨j6, rfl⟩ := h0
  exact j_env (s' := [some (em v_world), some (em v_side), some (em v_offers), some (em st5), some (em p10), none, none]) rfl (j_seq (j_set (r_lcm (r_itZip (r_var rfl) (r_call4 r_chosen (ref_up (r_var rfl)) (ref_up (r_var rfl)) (ref_up (r_var rfl)) (ref_up (r_var rfl)))) (fun p19 => [some (em v_world), some (em v_side), some (em v_offers), some (em st5), some (em p10), some (em p19.1), some (em p19.2)]) (fun _ => rfl) (fun p19 => (r_op2 (r_var rfl) (r_var rfl)))) fun v_found =>
  (j_env (s' := [some (em v_world), some (em v_side), some (em v_offers), some (em v_found), some (em p10), none, none]) rfl (j_skip (j_nx ⟨_, rfl⟩)))))) (fun st5 s0 h0 => by
  obtain ⟨j6, rfl⟩ := h0
  exact (j_seq (j_retT (ref_up (r_op1 (r_var rfl))))))))))))
def b_limits : S :=
  (.seq (.ret (.op1 .tupleOf (.lc [1] (.name 1) (.itSeq (.op2 .idx (.var 0) (.cst (.int 2)))) (.cst (.bool true)) (.op2 .idx (.var 1) (.cst (.int 2))))))
    .skip)
def f_limits : Fn := fnD 1 2 b_limits
noncomputable def n_limits (v_world : Wd) : R (Plan) :=
  (upR (((((R.ok v_world) >>= OC.f .idx 2) >>= SeqN.f) >>= fun q2 => mapN q2 (fun p1 => ((R.ok p1) >>= OC.f .idx 2))) >>= O1.f .tupleOf) : R (Plan))
theorem r_limits (v_world : Wd) : Ref (f_limits [em v_world]) (n_limits v_world) := by
  delta f_limits b_limits n_limits
  exact r_fn rfl (j_env (s' := [some (em v_world), none]) rfl
  (j_seq (j_retT (ref_up (r_op1 (r_lcm (r_itSeq (r_opc (r_var rfl))) (fun p1 => [some (em v_world), some (em p1)]) (fun _ => rfl) (fun p1 => (r_opc (r_var rfl)))))))))
def b_refused : S :=
  (.seq (.set 2 (.call "both_ends" f_both_ends (.cons (.var 0) (.cons (.cst (.int 0)) (.cons (.var 1) .nil)))))
    (.seq (.set 3 (.call "both_ends" f_both_ends (.cons (.var 0) (.cons (.cst (.int 1)) (.cons (.var 2) .nil)))))
    (.seq (.forS [] (.name 4) (.itRange (.op1 .len (.op2 .idx (.var 0) (.cst (.int 2)))))
    (.seq (.ifS (.op2 .lt (.op2 .idx (.var 3) (.var 4)) (.op2 .idx (.var 2) (.var 4)))
    (.seq (.ret (.tup (.cons (.var 4) (.cons (.op2 .idx (.var 3) (.var 4)) .nil))))
    .skip)
    .skip)
    .skip))
    (.seq (.ret (.cst .none))
    .skip))))
def f_refused : Fn := fnD 2 5 b_refused
noncomputable def n_refused (v_world : Wd) (v_caps : Plan) : R (Option (Int × Int)) :=
  (((upR (R.ok v_world) : R (Wd)) >>= fun q1 => (upR (R.ok (0 : Int)) : R (Int)) >>= fun q2 => (upR (R.ok v_caps) : R (Plan)) >>= fun q3 => n_both_ends q1 q2 q3) >>= fun v_offers =>
  (((upR (R.ok v_world) : R (Wd)) >>= fun q4 => (upR (R.ok (1 : Int)) : R (Int)) >>= fun q5 => (upR (R.ok v_offers) : R (Plan)) >>= fun q6 => n_both_ends q4 q5 q6) >>= fun v_some =>
  (((((R.ok v_world) >>= OC.f .idx 2) >>= O1.f .len) >>= fun q9 => rangeN 0 q9) >>= fun q23 => forX (ρ := Option (Int × Int)) q23 () (fun st7 p10 =>
  ((((R.ok v_some) >>= fun q11 => (R.ok p10) >>= fun q12 => O2.f .idx q11 q12) >>= fun q15 => ((R.ok v_offers) >>= fun q13 => (R.ok p10) >>= fun q14 => O2.f .idx q13 q14) >>= fun q16 => O2.f .lt q15 q16) >>= fun q17 => if q17 then ((upR ((R.ok p10) >>= fun q20 => ((R.ok v_some) >>= fun q18 => (R.ok p10) >>= fun q19 => O2.f .idx q18 q19) >>= fun q21 => R.ok ((q20, q21))) : R (Option (Int × Int))) >>= fun q22 => R.ok (Nx.ret q22))
  else (R.ok (Nx.nx ())))) >>= fun q24 => nxE q24 (fun st7 =>
  (upR (R.ok NoneV.v) : R (Option (Int × Int)))) id)))
theorem r_refused (v_world : Wd) (v_caps : Plan) : Ref (f_refused [em v_world, em v_caps]) (n_refused v_world v_caps) := by
  delta f_refused b_refused n_refused
  exact r_fn rfl (j_env (s' := [some (em v_world), some (em v_caps), none, none, none]) rfl
  (j_seq (j_set (r_call3 r_both_ends (ref_up (r_var rfl)) (ref_up (r_int _)) (ref_up (r_var rfl))) fun v_offers =>
  (j_env (s' := [some (em v_world), some (em v_caps), some (em v_offers), none, none]) rfl (j_seq (j_set (r_call3 r_both_ends (ref_up (r_var rfl)) (ref_up (r_int _)) (ref_up (r_var rfl))) fun v_some =>
  (j_env (s' := [some (em v_world), some (em v_caps), some (em v_offers), some (em v_some), none]) rfl (j_seq (j_forX (ev := (fun st7 s' => ∃ j8, s' = [some (em v_world), some (em v_caps), some (em v_offers), some (em v_some), j8])) (r_itRange (r_op1 (r_opc (r_var rfl)))) ⟨_, rfl⟩ (fun x s' => s'.set 4 (some (em x))) (fun _ _ _ h0 => by obtain ⟨j8, rfl⟩ := h0; rfl) (fun p10 st7 s0 h0 => by
  obtain ⟨j8, rfl⟩ := h0
  exact j_env (s' := [some (em v_world), some (em v_caps), some (em v_offers), some (em v_some), some (em p10)]) rfl (j_seq (j_if (r_op2 (r_op2 (r_var rfl) (r_var rfl)) (r_op2 (r_var rfl) (r_var rfl))) (j_seq (j_ret (k := Nx.ret) (ref_up (r_tup2 (r_var rfl) (r_op2 (r_var rfl) (r_var rfl)))) (fun _ => rfl)))
  (j_skip (j_skip (j_nxX ⟨_, rfl⟩)))))) (fun _ => rfl) (fun st7 s0 h0 => by
  obtain ⟨j8, rfl⟩ := h0
  exact (j_seq (j_retT (ref_up r_none)))))))))))))
def b_lowered : S :=
  (.seq (.ret (.op2 .add (.op2 .add (.op2 .to (.var 0) (.var 1)) (.tup (.cons (.var 2) .nil))) (.op2 .from_ (.var 0) (.op2 .add (.var 1) (.cst (.int 1))))))
    .skip)
def f_lowered : Fn := fnD 3 3 b_lowered
noncomputable def n_lowered (v_caps : Plan) (v_way : Int) (v_cap : Int) : R (Plan) :=
  (upR ((((R.ok v_caps) >>= fun q1 => (R.ok v_way) >>= fun q2 => O2.f .to q1 q2) >>= fun q6 => (((R.ok v_cap) >>= fun q3 => (R.ok []) >>= fun q4 => R.ok (q3 :: q4)) >>= fun q5 => R.ok (Tp.mk q5)) >>= fun q7 => O2.f .add q6 q7) >>= fun q12 => ((R.ok v_caps) >>= fun q10 => ((R.ok v_way) >>= fun q8 => (R.ok (1 : Int)) >>= fun q9 => O2.f .add q8 q9) >>= fun q11 => O2.f .from_ q10 q11) >>= fun q13 => O2.f .add q12 q13) : R (Plan))
theorem r_lowered (v_caps : Plan) (v_way : Int) (v_cap : Int) : Ref (f_lowered [em v_caps, em v_way, em v_cap]) (n_lowered v_caps v_way v_cap) := by
  delta f_lowered b_lowered n_lowered
  exact r_fn rfl (j_env (s' := [some (em v_caps), some (em v_way), some (em v_cap)]) rfl
  (j_seq (j_retT (ref_up (r_op2 (r_op2 (r_op2 (r_var rfl) (r_var rfl)) (r_tupl (r_cons (r_var rfl) r_nil))) (r_op2 (r_var rfl) (r_op2 (r_var rfl) (r_int _))))))))
def b_steps : S :=
  (.seq (.set 1 (.call "limits" f_limits (.cons (.var 0) .nil)))
    (.seq (.setO 2 (.lst .nil))
    (.seq (.set 3 (.call "refused" f_refused (.cons (.var 0) (.cons (.var 1) .nil))))
    (.seq (.whileS 10000 [] (.op2 .isNot (.var 3) (.cst .none))
    (.seq (.app 2 (.var 3))
    (.seq (.set 1 (.call "lowered" f_lowered (.cons (.var 1) (.cons (.op2 .idx (.var 3) (.cst (.int 0))) (.cons (.op2 .idx (.var 3) (.cst (.int 1))) .nil)))))
    (.seq (.set 3 (.call "refused" f_refused (.cons (.var 0) (.cons (.var 1) .nil))))
    .skip))))
    (.seq (.ret (.var 2))
    .skip)))))
def f_steps : Fn := fnD 1 4 b_steps
noncomputable def n_steps (v_world : Wd) : R (List (Int × Int)) :=
  (((upR (R.ok v_world) : R (Wd)) >>= n_limits) >>= fun v_caps =>
  ((upR (R.ok NilL.v) : R (List (Int × Int))) >>= fun v_found =>
  (((upR (R.ok v_world) : R (Wd)) >>= fun q2 => (upR (R.ok v_caps) : R (Plan)) >>= fun q3 => n_refused q2 q3) >>= fun v_told =>
  (whileN 10000 (v_found, v_caps, v_told) (fun st4 => ((R.ok st4.2.2) >>= fun q5 => (R.ok NoneV.v) >>= fun q6 => O2.f .isNot q5 q6)) (fun st4 =>
  (((R.ok st4.2.2) >>= oR) >>= fun q7 => appN st4.1 q7 >>= fun v_found =>
  (((upR (R.ok st4.2.1) : R (Plan)) >>= fun q9 => (upR ((R.ok st4.2.2) >>= OC.f .idx 0) : R (Int)) >>= fun q10 => (upR ((R.ok st4.2.2) >>= OC.f .idx 1) : R (Int)) >>= fun q11 => n_lowered q9 q10 q11) >>= fun v_caps =>
  (((upR (R.ok v_world) : R (Wd)) >>= fun q12 => (upR (R.ok v_caps) : R (Plan)) >>= fun q13 => n_refused q12 q13) >>= fun v_told =>
  (R.ok (v_found, v_caps, v_told)))))) >>= fun st4 =>
  (upR (R.ok st4.1) : R (List (Int × Int)))))))
theorem r_steps (v_world : Wd) : Ref (f_steps [em v_world]) (n_steps v_world) := by
  delta f_steps b_steps n_steps
  exact r_fn rfl (j_env (s' := [some (em v_world), none, none, none]) rfl
  (j_seq (j_set (r_call1 r_limits (ref_up (r_var rfl))) fun v_caps =>
  (j_env (s' := [some (em v_world), some (em v_caps), none, none]) rfl (j_seq (j_setO (ref_up r_lst0) fun v_found =>
  (j_env (s' := [some (em v_world), some (em v_caps), some (em v_found), none]) rfl (j_seq (j_set (r_call2 r_refused (ref_up (r_var rfl)) (ref_up (r_var rfl))) fun v_told =>
  (j_env (s' := [some (em v_world), some (em v_caps), some (em v_found), some (em v_told)]) rfl (j_seq (j_while (ev := (fun st4 s' => s' = [some (em v_world), some (em st4.2.1), some (em st4.1), some (em st4.2.2)])) rfl (fun st4 s0 h0 => by cases h0; exact (r_op2 (r_var rfl) r_none)) (fun st4 s0 h0 => by
  cases h0
  exact (j_seq (j_app rfl (ref_get (r_var rfl)) fun v_found =>
  (j_env (s' := [some (em v_world), some (em st4.2.1), some (em v_found), some (em st4.2.2)]) rfl (j_seq (j_set (r_call3 r_lowered (ref_up (r_var rfl)) (ref_up (r_opc (r_var rfl))) (ref_up (r_opc (r_var rfl)))) fun v_caps =>
  (j_env (s' := [some (em v_world), some (em v_caps), some (em v_found), some (em st4.2.2)]) rfl (j_seq (j_set (r_call2 r_refused (ref_up (r_var rfl)) (ref_up (r_var rfl))) fun v_told =>
  (j_env (s' := [some (em v_world), some (em v_caps), some (em v_found), some (em v_told)]) rfl (j_skip (j_nx rfl)))))))))))) (fun st4 s0 h0 => by
  cases h0
  exact (j_seq (j_retT (ref_up (r_var rfl)))))))))))))))))
def b_capped : S :=
  (.seq (.set 2 (.call "limits" f_limits (.cons (.var 0) .nil)))
    (.seq (.forS [] (.tup [3, 4]) (.itSeq (.var 1))
    (.seq (.set 2 (.call "lowered" f_lowered (.cons (.var 2) (.cons (.var 3) (.cons (.var 4) .nil)))))
    .skip))
    (.seq (.ret (.var 2))
    .skip)))
def f_capped : Fn := fnD 2 5 b_capped
noncomputable def n_capped (v_world : Wd) (v_rows : List (Int × Int)) : R (Plan) :=
  (((upR (R.ok v_world) : R (Wd)) >>= n_limits) >>= fun v_caps =>
  (((R.ok v_rows) >>= SeqN.f) >>= fun q9 => forN q9 v_caps (fun st2 p5 =>
  (((upR (R.ok st2) : R (Plan)) >>= fun q6 => (upR (R.ok p5.1) : R (Int)) >>= fun q7 => (upR (R.ok p5.2) : R (Int)) >>= fun q8 => n_lowered q6 q7 q8) >>= fun v_caps =>
  (R.ok v_caps))) >>= fun st2 =>
  (upR (R.ok st2) : R (Plan))))
theorem r_capped (v_world : Wd) (v_rows : List (Int × Int)) : Ref (f_capped [em v_world, em v_rows]) (n_capped v_world v_rows) := by
  delta f_capped b_capped n_capped
  exact r_fn rfl (j_env (s' := [some (em v_world), some (em v_rows), none, none, none]) rfl
  (j_seq (j_set (r_call1 r_limits (ref_up (r_var rfl))) fun v_caps =>
  (j_env (s' := [some (em v_world), some (em v_rows), some (em v_caps), none, none]) rfl (j_seq (j_for (ev := (fun st2 s' => ∃ j3 j4, s' = [some (em v_world), some (em v_rows), some (em st2), j3, j4])) (r_itSeq (r_var rfl)) ⟨_, _, rfl⟩ (fun x s' => (s'.set 3 (some (em x.1))).set 4 (some (em x.2))) (fun _ _ _ h0 => by obtain ⟨j3, j4, rfl⟩ := h0; rfl) (fun p5 st2 s0 h0 => by
  obtain ⟨j3, j4, rfl⟩ := h0
  exact j_env (s' := [some (em v_world), some (em v_rows), some (em st2), some (em p5.1), some (em p5.2)]) rfl (j_seq (j_set (r_call3 r_lowered (ref_up (r_var rfl)) (ref_up (r_var rfl)) (ref_up (r_var rfl))) fun v_caps =>
  (j_env (s' := [some (em v_world), some (em v_rows), some (em v_caps), some (em p5.1), some (em p5.2)]) rfl (j_skip (j_nx ⟨_, _, rfl⟩)))))) (fun st2 s0 h0 => by
  obtain ⟨j3, j4, rfl⟩ := h0
  exact (j_seq (j_retT (ref_up (r_var rfl)))))))))))
def b_givers_best : S :=
  (.seq (.exp (.call "need_world" f_need_world (.cons (.var 0) .nil)))
    (.seq (.ret (.call "both_ends" f_both_ends (.cons (.var 0) (.cons (.cst (.int 0)) (.cons (.call "capped" f_capped (.cons (.var 0) (.cons (.call "steps" f_steps (.cons (.var 0) .nil)) .nil))) .nil)))))
    .skip))
def f_givers_best : Fn := fnD 1 1 b_givers_best
noncomputable def n_givers_best (v_world : Wd) : R (Plan) :=
  (((upR (R.ok v_world) : R (D)) >>= n_need_world) >>= fun q8 =>
  (upR ((upR (R.ok v_world) : R (Wd)) >>= fun q5 => (upR (R.ok (0 : Int)) : R (Int)) >>= fun q6 => (upR ((upR (R.ok v_world) : R (Wd)) >>= fun q3 => (upR ((upR (R.ok v_world) : R (Wd)) >>= n_steps) : R (List (Int × Int))) >>= fun q4 => n_capped q3 q4) : R (Plan)) >>= fun q7 => n_both_ends q5 q6 q7) : R (Plan)))
theorem r_givers_best (v_world : Wd) : Ref (f_givers_best [em v_world]) (n_givers_best v_world) := by
  delta f_givers_best b_givers_best n_givers_best
  exact r_fn rfl (j_env (s' := [some (em v_world)]) rfl
  (j_seq (j_exp (r_call1 r_need_world (ref_up (r_var rfl))) (j_seq (j_retT (ref_up (r_call3 r_both_ends (ref_up (r_var rfl)) (ref_up (r_int _)) (ref_up (r_call2 r_capped (ref_up (r_var rfl)) (ref_up (r_call1 r_steps (ref_up (r_var rfl)))))))))))))
def b_takers_best : S :=
  (.seq (.set 1 (.call "turned" f_turned (.cons (.var 0) .nil)))
    (.seq (.ret (.call "turned_plan" f_turned_plan (.cons (.var 1) (.cons (.call "givers_best" f_givers_best (.cons (.var 1) .nil)) .nil))))
    .skip))
def f_takers_best : Fn := fnD 1 2 b_takers_best
noncomputable def n_takers_best (v_world : Wd) : R (Plan) :=
  (((upR (R.ok v_world) : R (Wd)) >>= n_turned) >>= fun v_other =>
  (upR ((upR (R.ok v_other) : R (Wd)) >>= fun q3 => (upR ((upR (R.ok v_other) : R (Wd)) >>= n_givers_best) : R (Plan)) >>= fun q4 => n_turned_plan q3 q4) : R (Plan)))
theorem r_takers_best (v_world : Wd) : Ref (f_takers_best [em v_world]) (n_takers_best v_world) := by
  delta f_takers_best b_takers_best n_takers_best
  exact r_fn rfl (j_env (s' := [some (em v_world), none]) rfl
  (j_seq (j_set (r_call1 r_turned (ref_up (r_var rfl))) fun v_other =>
  (j_env (s' := [some (em v_world), some (em v_other)]) rfl (j_seq (j_retT (ref_up (r_call2 r_turned_plan (ref_up (r_var rfl)) (ref_up (r_call1 r_givers_best (ref_up (r_var rfl))))))))))))
def b_choice : S :=
  (.seq (.exp (.call "need_world" f_need_world (.cons (.var 0) .nil)))
    (.seq (.exp (.call "need_place" f_need_place (.cons (.var 0) (.cons (.var 1) (.cons (.var 2) .nil)))))
    (.seq (.ret (.call "chosen" f_chosen (.cons (.var 0) (.cons (.var 1) (.cons (.var 2) (.cons (.var 3) .nil))))))
    .skip)))
def f_choice : Fn := fnD 4 4 b_choice
noncomputable def n_choice (v_world : Wd) (v_side : Int) (v_place : Int) (v_offers : Plan) : R (Plan) :=
  (((upR (R.ok v_world) : R (D)) >>= n_need_world) >>= fun q10 =>
  (((upR (R.ok v_world) : R (Wd)) >>= fun q2 => (upR (R.ok v_side) : R (Int)) >>= fun q3 => (upR (R.ok v_place) : R (D)) >>= fun q4 => n_need_place q2 q3 q4) >>= fun q9 =>
  (upR ((upR (R.ok v_world) : R (Wd)) >>= fun q5 => (upR (R.ok v_side) : R (Int)) >>= fun q6 => (upR (R.ok v_place) : R (Int)) >>= fun q7 => (upR (R.ok v_offers) : R (Plan)) >>= fun q8 => n_chosen q5 q6 q7 q8) : R (Plan))))
theorem r_choice (v_world : Wd) (v_side : Int) (v_place : Int) (v_offers : Plan) : Ref (f_choice [em v_world, em v_side, em v_place, em v_offers]) (n_choice v_world v_side v_place v_offers) := by
  delta f_choice b_choice n_choice
  exact r_fn rfl (j_env (s' := [some (em v_world), some (em v_side), some (em v_place), some (em v_offers)]) rfl
  (j_seq (j_exp (r_call1 r_need_world (ref_up (r_var rfl))) (j_seq (j_exp (r_call3 r_need_place (ref_up (r_var rfl)) (ref_up (r_var rfl)) (ref_up (r_var rfl))) (j_seq (j_retT (ref_up (r_call4 r_chosen (ref_up (r_var rfl)) (ref_up (r_var rfl)) (ref_up (r_var rfl)) (ref_up (r_var rfl)))))))))))
def b_reason : S :=
  (.seq (.exp (.call "need_plan" f_need_plan (.cons (.var 0) (.cons (.var 1) .nil))))
    (.seq (.ifS (.notE (.call "is_number" f_is_number (.cons (.var 2) (.cons (.cst (.int 0)) (.cons (.op2 .sub (.op1 .len (.op2 .idx (.var 0) (.cst (.int 2)))) (.cst (.int 1))) .nil)))))
    (.seq (.raise "NoPlace" 2)
    .skip)
    .skip)
    (.seq (.setT [3, 4, 5] (.op2 .idx (.op2 .idx (.var 0) (.cst (.int 2))) (.var 2)))
    (.seq (.ifS (.op2 .eq (.op2 .idx (.var 1) (.var 2)) (.var 5))
    (.seq (.ret (.cst (.str (Str.ofString "full"))))
    .skip)
    .skip)
    (.seq (.ifS (.notE (.call "wants" f_wants (.cons (.var 0) (.cons (.var 1) (.cons (.cst (.int 0)) (.cons (.var 3) (.cons (.var 2) .nil)))))))
    (.seq (.ret (.cst (.str (Str.ofString "giver"))))
    .skip)
    .skip)
    (.seq (.ret (.ite (.call "wants" f_wants (.cons (.var 0) (.cons (.var 1) (.cons (.cst (.int 1)) (.cons (.var 4) (.cons (.var 2) .nil)))))) (.cst .none) (.cst (.str (Str.ofString "taker")))))
    .skip))))))
def f_reason : Fn := fnD 3 6 b_reason
noncomputable def n_reason (v_world : Wd) (v_plan : Plan) (v_way : Int) : R (Option String) :=
  (((upR (R.ok v_world) : R (D)) >>= fun q1 => (upR (R.ok v_plan) : R (D)) >>= fun q2 => n_need_plan q1 q2) >>= fun q32 =>
  ((((upR (R.ok v_way) : R (D)) >>= fun q5 => (upR (R.ok (0 : Int)) : R (Int)) >>= fun q6 => (upR ((((R.ok v_world) >>= OC.f .idx 2) >>= O1.f .len) >>= fun q3 => (R.ok (1 : Int)) >>= fun q4 => O2.f .sub q3 q4) : R (Int)) >>= fun q7 => n_is_number q5 q6 q7) >>= fun q8 => R.ok (!q8)) >>= fun q9 => if q9 then (R.ex 2)
  else ((((R.ok v_world) >>= OC.f .idx 2) >>= fun q10 => (R.ok v_way) >>= fun q11 => O2.f .idx q10 q11) >>= fun q31 => oR (Un3.f q31) >>= fun p12 =>
  ((((R.ok v_plan) >>= fun q13 => (R.ok v_way) >>= fun q14 => O2.f .idx q13 q14) >>= fun q15 => (R.ok p12.c) >>= fun q16 => O2.f .eq q15 q16) >>= fun q17 => if q17 then (upR (R.ok "full") : R (Option String))
  else ((((upR (R.ok v_world) : R (Wd)) >>= fun q18 => (upR (R.ok v_plan) : R (Plan)) >>= fun q19 => (upR (R.ok (0 : Int)) : R (Int)) >>= fun q20 => (upR (R.ok p12.a) : R (Int)) >>= fun q21 => (upR (R.ok v_way) : R (Int)) >>= fun q22 => n_wants q18 q19 q20 q21 q22) >>= fun q23 => R.ok (!q23)) >>= fun q24 => if q24 then (upR (R.ok "giver") : R (Option String))
  else (upR (((upR (R.ok v_world) : R (Wd)) >>= fun q25 => (upR (R.ok v_plan) : R (Plan)) >>= fun q26 => (upR (R.ok (1 : Int)) : R (Int)) >>= fun q27 => (upR (R.ok p12.b) : R (Int)) >>= fun q28 => (upR (R.ok v_way) : R (Int)) >>= fun q29 => n_wants q25 q26 q27 q28 q29) >>= fun q30 => if q30 then (upR (R.ok NoneV.v) : R (Option String)) else (upR (R.ok "taker") : R (Option String))) : R (Option String)))))))
theorem r_reason (v_world : Wd) (v_plan : Plan) (v_way : Int) : Ref (f_reason [em v_world, em v_plan, em v_way]) (n_reason v_world v_plan v_way) := by
  delta f_reason b_reason n_reason
  exact r_fn rfl (j_env (s' := [some (em v_world), some (em v_plan), some (em v_way), none, none, none]) rfl
  (j_seq (j_exp (r_call2 r_need_plan (ref_up (r_var rfl)) (ref_up (r_var rfl))) (j_seq (j_if (r_not (r_call3 r_is_number (ref_up (r_var rfl)) (ref_up (r_int _)) (ref_up (r_op2 (r_op1 (r_opc (r_var rfl))) (r_int _))))) (j_seq j_raise)
  (j_skip (j_seq (j_setT3 (r_op2 (r_opc (r_var rfl)) (r_var rfl)) fun p12 =>
  (j_env (s' := [some (em v_world), some (em v_plan), some (em v_way), some (em p12.a), some (em p12.b), some (em p12.c)]) rfl (j_seq (j_if (r_op2 (r_op2 (r_var rfl) (r_var rfl)) (r_var rfl)) (j_seq (j_retT (ref_up (r_str _))))
  (j_skip (j_seq (j_if (r_not (r_call5 r_wants (ref_up (r_var rfl)) (ref_up (r_var rfl)) (ref_up (r_int _)) (ref_up (r_var rfl)) (ref_up (r_var rfl)))) (j_seq (j_retT (ref_up (r_str _))))
  (j_skip (j_seq (j_retT (ref_up (r_ite (r_call5 r_wants (ref_up (r_var rfl)) (ref_up (r_var rfl)) (ref_up (r_int _)) (ref_up (r_var rfl)) (ref_up (r_var rfl))) (ref_up r_none) (ref_up (r_str _)))))))))))))))))))))
def b__law_choice : S :=
  (.seq (.setO 4 (.op2 .mul (.lst (.cons (.cst (.int 0)) .nil)) (.op1 .len (.var 3))))
    (.seq (.set 5 (.op2 .idx (.op2 .idx (.op2 .idx (.var 0) (.var 1)) (.var 2)) (.cst (.int 0))))
    (.seq (.forS [] (.name 6) (.itSeq (.op2 .idx (.op2 .idx (.op2 .idx (.var 0) (.var 1)) (.var 2)) (.cst (.int 1))))
    (.seq (.forS [] (.name 7) (.itRange (.op1 .len (.var 3)))
    (.seq (.ifS (.andE (.op2 .eq (.op2 .idx (.op2 .idx (.op2 .idx (.var 0) (.cst (.int 2))) (.var 7)) (.var 1)) (.var 2)) (.oneE (.op2 .eq (.op2 .idx (.op2 .idx (.op2 .idx (.var 0) (.cst (.int 2))) (.var 7)) (.op2 .sub (.cst (.int 1)) (.var 1))) (.var 6))))
    (.seq (.put 4 (.var 7) (.op3 .min3 (.var 5) (.op2 .idx (.var 3) (.var 7)) (.op2 .idx (.op2 .idx (.op2 .idx (.var 0) (.cst (.int 2))) (.var 7)) (.cst (.int 2)))))
    (.seq (.set 5 (.op2 .sub (.var 5) (.op2 .idx (.var 4) (.var 7))))
    .skip))
    .skip)
    .skip))
    .skip))
    (.seq (.ret (.op1 .tupleOf (.var 4)))
    .skip))))
def f__law_choice : Fn := fnD 4 8 b__law_choice
noncomputable def n__law_choice (v_world_here : Wd) (v_side : Int) (v_place : Int) (v_offers : Plan) : R (Plan) :=
  ((((R.ok (0 : Int)) >>= fun q1 => (R.ok []) >>= fun q2 => R.ok (q1 :: q2)) >>= fun q3 => ((R.ok v_offers) >>= O1.f .len) >>= fun q4 => O2.f .mul q3 q4) >>= fun v_found =>
  (((((R.ok v_world_here) >>= fun q5 => (R.ok v_side) >>= fun q6 => O2.f .idx q5 q6) >>= fun q7 => (R.ok v_place) >>= fun q8 => O2.f .idx q7 q8) >>= OC.f .idx 0) >>= fun v_left =>
  ((((((R.ok v_world_here) >>= fun q12 => (R.ok v_side) >>= fun q13 => O2.f .idx q12 q13) >>= fun q14 => (R.ok v_place) >>= fun q15 => O2.f .idx q14 q15) >>= OC.f .idx 1) >>= SeqN.f) >>= fun q51 => forN q51 (v_found, v_left) (fun st9 p16 =>
  ((((R.ok v_offers) >>= O1.f .len) >>= fun q19 => rangeN 0 q19) >>= fun q50 => forN q50 (st9.1, st9.2) (fun st17 p20 =>
  (((((((R.ok v_world_here) >>= OC.f .idx 2) >>= fun q21 => (R.ok p20) >>= fun q22 => O2.f .idx q21 q22) >>= fun q23 => (R.ok v_side) >>= fun q24 => O2.f .idx q23 q24) >>= fun q25 => (R.ok v_place) >>= fun q26 => O2.f .eq q25 q26) >>= fun q35 => if q35 then (((((R.ok v_world_here) >>= OC.f .idx 2) >>= fun q27 => (R.ok p20) >>= fun q28 => O2.f .idx q27 q28) >>= fun q31 => ((R.ok (1 : Int)) >>= fun q29 => (R.ok v_side) >>= fun q30 => O2.f .sub q29 q30) >>= fun q32 => O2.f .idx q31 q32) >>= fun q33 => (R.ok p16) >>= fun q34 => O2.f .eq q33 q34) else R.ok false) >>= fun q36 => if q36 then (((R.ok st17.2) >>= fun q41 => ((R.ok v_offers) >>= fun q37 => (R.ok p20) >>= fun q38 => O2.f .idx q37 q38) >>= fun q42 => ((((R.ok v_world_here) >>= OC.f .idx 2) >>= fun q39 => (R.ok p20) >>= fun q40 => O2.f .idx q39 q40) >>= OC.f .idx 2) >>= fun q43 => min3N q41 q42 q43) >>= fun q48 => (R.ok p20) >>= fun q49 => putN st17.1 q49 q48 >>= fun v_found =>
  (((R.ok st17.2) >>= fun q46 => ((R.ok v_found) >>= fun q44 => (R.ok p20) >>= fun q45 => O2.f .idx q44 q45) >>= fun q47 => O2.f .sub q46 q47) >>= fun v_left =>
  (R.ok (v_found, v_left))))
  else (R.ok (st17.1, st17.2)))) >>= fun st17 =>
  (R.ok (st17.1, st17.2)))) >>= fun st9 =>
  (upR ((R.ok st9.1) >>= O1.f .tupleOf) : R (Plan)))))
theorem r__law_choice (v_world_here : Wd) (v_side : Int) (v_place : Int) (v_offers : Plan) : Ref (f__law_choice [em v_world_here, em v_side, em v_place, em v_offers]) (n__law_choice v_world_here v_side v_place v_offers) := by
  delta f__law_choice b__law_choice n__law_choice
  exact r_fn rfl (j_env (s' := [some (em v_world_here), some (em v_side), some (em v_place), some (em v_offers), none, none, none, none]) rfl
  (j_seq (j_setO (r_op2 (r_lst (r_cons (r_int _) r_nil)) (r_op1 (r_var rfl))) fun v_found =>
  (j_env (s' := [some (em v_world_here), some (em v_side), some (em v_place), some (em v_offers), some (em v_found), none, none, none]) rfl (j_seq (j_set (r_opc (r_op2 (r_op2 (r_var rfl) (r_var rfl)) (r_var rfl))) fun v_left =>
  (j_env (s' := [some (em v_world_here), some (em v_side), some (em v_place), some (em v_offers), some (em v_found), some (em v_left), none, none]) rfl (j_seq (j_for (ev := (fun st9 s' => ∃ j10 j11, s' = [some (em v_world_here), some (em v_side), some (em v_place), some (em v_offers), some (em st9.1), some (em st9.2), j10, j11])) (r_itSeq (r_opc (r_op2 (r_op2 (r_var rfl) (r_var rfl)) (r_var rfl)))) ⟨_, _, rfl⟩ (fun x s' => s'.set 6 (some (em x))) (fun _ _ _ h0 => by obtain ⟨j10, j11, rfl⟩ := h0; rfl) (fun p16 st9 s0 h0 => by
  obtain ⟨j10, j11, rfl⟩ := h0
  exact j_env (s' := [some (em v_world_here), some (em v_side), some (em v_place), some (em v_offers), some (em st9.1), some (em st9.2), some (em p16), j11]) rfl (j_seq (j_for (ev := (fun st17 s' => ∃ j18, s' = [some (em v_world_here), some (em v_side), some (em v_place), some (em v_offers), some (em st17.1), some (em st17.2), some (em p16), j18])) (r_itRange (r_op1 (r_var rfl))) ⟨_, rfl⟩ (fun x s' => s'.set 7 (some (em x))) (fun _ _ _ h0 => by obtain ⟨j18, rfl⟩ := h0; rfl) (fun p20 st17 s0 h0 => by
  obtain ⟨j18, rfl⟩ := h0
  exact j_env (s' := [some (em v_world_here), some (em v_side), some (em v_place), some (em v_offers), some (em st17.1), some (em st17.2), some (em p16), some (em p20)]) rfl (j_seq (j_if (r_and (r_op2 (r_op2 (r_op2 (r_opc (r_var rfl)) (r_var rfl)) (r_var rfl)) (r_var rfl)) (r_one (r_op2 (r_op2 (r_op2 (r_opc (r_var rfl)) (r_var rfl)) (r_op2 (r_int _) (r_var rfl))) (r_var rfl)))) (j_seq (j_put rfl (r_var rfl) (r_min3 (r_var rfl) (r_op2 (r_var rfl) (r_var rfl)) (r_opc (r_op2 (r_opc (r_var rfl)) (r_var rfl)))) fun v_found =>
  (j_env (s' := [some (em v_world_here), some (em v_side), some (em v_place), some (em v_offers), some (em v_found), some (em st17.2), some (em p16), some (em p20)]) rfl (j_seq (j_set (r_op2 (r_var rfl) (r_op2 (r_var rfl) (r_var rfl))) fun v_left =>
  (j_env (s' := [some (em v_world_here), some (em v_side), some (em v_place), some (em v_offers), some (em v_found), some (em v_left), some (em p16), some (em p20)]) rfl (j_skip (j_skip (j_nx ⟨_, rfl⟩)))))))))
  (j_skip (j_skip (j_nx ⟨_, rfl⟩)))))) (fun st17 s0 h0 => by
  obtain ⟨j18, rfl⟩ := h0
  exact (j_skip (j_nx ⟨_, _, rfl⟩)))))) (fun st9 s0 h0 => by
  obtain ⟨j10, j11, rfl⟩ := h0
  exact (j_seq (j_retT (ref_up (r_op1 (r_var rfl)))))))))))))))
def b__law_ends : S :=
  (.seq (.set 3 (.op2 .mul (.lst (.cons (.cst (.int 0)) .nil)) (.op1 .len (.var 2))))
    (.seq (.forS [] (.name 4) (.itRange (.op1 .len (.op2 .idx (.var 0) (.var 1))))
    (.seq (.set 3 (.lc [5, 6] (.tup [5, 6]) (.itZip (.var 3) (.call "_law_choice" f__law_choice (.cons (.var 0) (.cons (.var 1) (.cons (.var 4) (.cons (.var 2) .nil)))))) (.cst (.bool true)) (.op2 .add (.var 5) (.var 6))))
    .skip))
    (.seq (.ret (.op1 .tupleOf (.var 3)))
    .skip)))
def f__law_ends : Fn := fnD 3 7 b__law_ends
noncomputable def n__law_ends (v_world_here : Wd) (v_side : Int) (v_offers : Plan) : R (Plan) :=
  ((((R.ok (0 : Int)) >>= fun q1 => (R.ok []) >>= fun q2 => R.ok (q1 :: q2)) >>= fun q3 => ((R.ok v_offers) >>= O1.f .len) >>= fun q4 => O2.f .mul q3 q4) >>= fun v_found =>
  (((((R.ok v_world_here) >>= fun q7 => (R.ok v_side) >>= fun q8 => O2.f .idx q7 q8) >>= O1.f .len) >>= fun q9 => rangeN 0 q9) >>= fun q23 => forN q23 v_found (fun st5 p10 =>
  ((((R.ok st5) >>= fun q15 => ((upR (R.ok v_world_here) : R (Wd)) >>= fun q11 => (upR (R.ok v_side) : R (Int)) >>= fun q12 => (upR (R.ok p10) : R (Int)) >>= fun q13 => (upR (R.ok v_offers) : R (Plan)) >>= fun q14 => n__law_choice q11 q12 q13 q14) >>= fun q16 => SeqN.f q15 >>= fun q17 => SeqN.f q16 >>= fun q18 => R.ok (List.zip q17 q18)) >>= fun q20 => mapN q20 (fun p19 => ((R.ok p19.1) >>= fun q21 => (R.ok p19.2) >>= fun q22 => O2.f .add q21 q22))) >>= fun v_found =>
  (R.ok v_found))) >>= fun st5 =>
  (upR ((R.ok st5) >>= O1.f .tupleOf) : R (Plan))))
theorem r__law_ends (v_world_here : Wd) (v_side : Int) (v_offers : Plan) : Ref (f__law_ends [em v_world_here, em v_side, em v_offers]) (n__law_ends v_world_here v_side v_offers) := by
  delta f__law_ends b__law_ends n__law_ends
  exact r_fn rfl (j_env (s' := [some (em v_world_here), some (em v_side), some (em v_offers), none, none, none, none]) rfl
  (j_seq (j_set (r_op2 (r_lst (r_cons (r_int _) r_nil)) (r_op1 (r_var rfl))) fun v_found =>
  (j_env (s' := [some (em v_world_here), some (em v_side), some (em v_offers), some (em v_found), none, none, none]) rfl (j_seq (j_for (ev := (fun st5 s' => ∃ j6, s' = [some (em v_world_here), some (em v_side), some (em v_offers), some (em st5), j6, none, none])) (r_itRange (r_op1 (r_op2 (r_var rfl) (r_var rfl)))) ⟨_, rfl⟩ (fun x s' => s'.set 4 (some (em x))) (fun _ _ _ h0 => by obtain ⟨j6, rfl⟩ := h0; rfl) (fun p10 st5 s0 h0 => by
  obtain ⟨j6, rfl⟩ := h0
  exact j_env (s' := [some (em v_world_here), some (em v_side), some (em v_offers), some (em st5), some (em p10), none, none]) rfl (j_seq (j_set (r_lcm (r_itZip (r_var rfl) (r_call4 r__law_choice (ref_up (r_var rfl)) (ref_up (r_var rfl)) (ref_up (r_var rfl)) (ref_up (r_var rfl)))) (fun p19 => [some (em v_world_here), some (em v_side), some (em v_offers), some (em st5), some (em p10), some (em p19.1), some (em p19.2)]) (fun _ => rfl) (fun p19 => (r_op2 (r_var rfl) (r_var rfl)))) fun v_found =>
  (j_env (s' := [some (em v_world_here), some (em v_side), some (em v_offers), some (em v_found), some (em p10), none, none]) rfl (j_skip (j_nx ⟨_, rfl⟩)))))) (fun st5 s0 h0 => by
  obtain ⟨j6, rfl⟩ := h0
  exact (j_seq (j_retT (ref_up (r_op1 (r_var rfl))))))))))))
def b_greater : S :=
  (.seq (.ret (.op1 .tupleOf (.lc [2, 3] (.tup [2, 3]) (.itZip (.var 0) (.var 1)) (.cst (.bool true)) (.op2 .max2 (.var 2) (.var 3)))))
    .skip)
def f_greater : Fn := fnD 2 4 b_greater
noncomputable def n_greater (v_one : Plan) (v_other : Plan) : R (Plan) :=
  (upR ((((R.ok v_one) >>= fun q1 => (R.ok v_other) >>= fun q2 => SeqN.f q1 >>= fun q3 => SeqN.f q2 >>= fun q4 => R.ok (List.zip q3 q4)) >>= fun q6 => mapN q6 (fun p5 => ((R.ok p5.1) >>= fun q7 => (R.ok p5.2) >>= fun q8 => O2.f .max2 q7 q8))) >>= O1.f .tupleOf) : R (Plan))
theorem r_greater (v_one : Plan) (v_other : Plan) : Ref (f_greater [em v_one, em v_other]) (n_greater v_one v_other) := by
  delta f_greater b_greater n_greater
  exact r_fn rfl (j_env (s' := [some (em v_one), some (em v_other), none, none]) rfl
  (j_seq (j_retT (ref_up (r_op1 (r_lcm (r_itZip (r_var rfl) (r_var rfl)) (fun p5 => [some (em v_one), some (em v_other), some (em p5.1), some (em p5.2)]) (fun _ => rfl) (fun p5 => (r_op2 (r_var rfl) (r_var rfl)))))))))
def b_own_ways : S :=
  (.seq (.set 4 (.call "ways_liked" f_ways_liked (.cons (.var 0) (.cons (.var 1) (.cons (.var 2) .nil)))))
    (.seq (.ret (.op1 .tupleOf (.lc [5, 6] (.tup [5, 6]) (.itEnum (.var 3)) (.cst (.bool true)) (.ite (.op2 .isin (.var 5) (.var 4)) (.var 6) (.cst (.int 0))))))
    .skip))
def f_own_ways : Fn := fnD 4 7 b_own_ways
noncomputable def n_own_ways (v_world : Wd) (v_side : Int) (v_place : Int) (v_plan : Plan) : R (Plan) :=
  (((upR (R.ok v_world) : R (Wd)) >>= fun q1 => (upR (R.ok v_side) : R (Int)) >>= fun q2 => (upR (R.ok v_place) : R (Int)) >>= fun q3 => n_ways_liked q1 q2 q3) >>= fun v_row =>
  (upR ((((R.ok v_plan) >>= fun q4 => SeqN.f q4 >>= fun q5 => R.ok (enumN q5)) >>= fun q7 => mapN q7 (fun p6 => (((R.ok p6.1) >>= fun q8 => (R.ok v_row) >>= fun q9 => O2.f .isin q8 q9) >>= fun q10 => if q10 then (R.ok p6.2) else (R.ok (0 : Int))))) >>= O1.f .tupleOf) : R (Plan)))
theorem r_own_ways (v_world : Wd) (v_side : Int) (v_place : Int) (v_plan : Plan) : Ref (f_own_ways [em v_world, em v_side, em v_place, em v_plan]) (n_own_ways v_world v_side v_place v_plan) := by
  delta f_own_ways b_own_ways n_own_ways
  exact r_fn rfl (j_env (s' := [some (em v_world), some (em v_side), some (em v_place), some (em v_plan), none, none, none]) rfl
  (j_seq (j_set (r_call3 r_ways_liked (ref_up (r_var rfl)) (ref_up (r_var rfl)) (ref_up (r_var rfl))) fun v_row =>
  (j_env (s' := [some (em v_world), some (em v_side), some (em v_place), some (em v_plan), some (em v_row), none, none]) rfl (j_seq (j_retT (ref_up (r_op1 (r_lcm (r_itEnum (r_var rfl)) (fun p6 => [some (em v_world), some (em v_side), some (em v_place), some (em v_plan), some (em v_row), some (em p6.1), some (em p6.2)]) (fun _ => rfl) (fun p6 => (r_ite (r_op2 (r_var rfl) (r_var rfl)) (r_var rfl) (r_int _))))))))))))
def b_likes : S :=
  (.seq (.exp (.call "need_plan" f_need_plan (.cons (.var 0) (.cons (.var 3) .nil))))
    (.seq (.exp (.call "need_plan" f_need_plan (.cons (.var 0) (.cons (.var 4) .nil))))
    (.seq (.exp (.call "need_place" f_need_place (.cons (.var 0) (.cons (.var 1) (.cons (.var 2) .nil)))))
    (.seq (.ret (.op2 .eq (.call "chosen" f_chosen (.cons (.var 0) (.cons (.var 1) (.cons (.var 2) (.cons (.call "greater" f_greater (.cons (.var 3) (.cons (.var 4) .nil))) .nil))))) (.call "own_ways" f_own_ways (.cons (.var 0) (.cons (.var 1) (.cons (.var 2) (.cons (.var 3) .nil)))))))
    .skip))))
def f_likes : Fn := fnD 5 5 b_likes
noncomputable def n_likes (v_world : Wd) (v_side : Int) (v_place : Int) (v_one : Plan) (v_other : Plan) : R (Bool) :=
  (((upR (R.ok v_world) : R (D)) >>= fun q1 => (upR (R.ok v_one) : R (D)) >>= fun q2 => n_need_plan q1 q2) >>= fun q22 =>
  (((upR (R.ok v_world) : R (D)) >>= fun q3 => (upR (R.ok v_other) : R (D)) >>= fun q4 => n_need_plan q3 q4) >>= fun q21 =>
  (((upR (R.ok v_world) : R (Wd)) >>= fun q5 => (upR (R.ok v_side) : R (Int)) >>= fun q6 => (upR (R.ok v_place) : R (D)) >>= fun q7 => n_need_place q5 q6 q7) >>= fun q20 =>
  (upR (((upR (R.ok v_world) : R (Wd)) >>= fun q10 => (upR (R.ok v_side) : R (Int)) >>= fun q11 => (upR (R.ok v_place) : R (Int)) >>= fun q12 => (upR ((upR (R.ok v_one) : R (Plan)) >>= fun q8 => (upR (R.ok v_other) : R (Plan)) >>= fun q9 => n_greater q8 q9) : R (Plan)) >>= fun q13 => n_chosen q10 q11 q12 q13) >>= fun q18 => ((upR (R.ok v_world) : R (Wd)) >>= fun q14 => (upR (R.ok v_side) : R (Int)) >>= fun q15 => (upR (R.ok v_place) : R (Int)) >>= fun q16 => (upR (R.ok v_one) : R (Plan)) >>= fun q17 => n_own_ways q14 q15 q16 q17) >>= fun q19 => O2.f .eq q18 q19) : R (Bool)))))
theorem r_likes (v_world : Wd) (v_side : Int) (v_place : Int) (v_one : Plan) (v_other : Plan) : Ref (f_likes [em v_world, em v_side, em v_place, em v_one, em v_other]) (n_likes v_world v_side v_place v_one v_other) := by
  delta f_likes b_likes n_likes
  exact r_fn rfl (j_env (s' := [some (em v_world), some (em v_side), some (em v_place), some (em v_one), some (em v_other)]) rfl
  (j_seq (j_exp (r_call2 r_need_plan (ref_up (r_var rfl)) (ref_up (r_var rfl))) (j_seq (j_exp (r_call2 r_need_plan (ref_up (r_var rfl)) (ref_up (r_var rfl))) (j_seq (j_exp (r_call3 r_need_place (ref_up (r_var rfl)) (ref_up (r_var rfl)) (ref_up (r_var rfl))) (j_seq (j_retT (ref_up (r_op2 (r_call4 r_chosen (ref_up (r_var rfl)) (ref_up (r_var rfl)) (ref_up (r_var rfl)) (ref_up (r_call2 r_greater (ref_up (r_var rfl)) (ref_up (r_var rfl))))) (r_call4 r_own_ways (ref_up (r_var rfl)) (ref_up (r_var rfl)) (ref_up (r_var rfl)) (ref_up (r_var rfl))))))))))))))
def b_all_like : S :=
  (.seq (.exp (.call "need_plan" f_need_plan (.cons (.var 0) (.cons (.var 2) .nil))))
    (.seq (.exp (.call "need_plan" f_need_plan (.cons (.var 0) (.cons (.var 3) .nil))))
    (.seq (.ret (.op1 .all (.lc [4] (.name 4) (.itRange (.op1 .len (.op2 .idx (.var 0) (.var 1)))) (.cst (.bool true)) (.call "likes" f_likes (.cons (.var 0) (.cons (.var 1) (.cons (.var 4) (.cons (.var 2) (.cons (.var 3) .nil)))))))))
    .skip)))
def f_all_like : Fn := fnD 4 5 b_all_like
noncomputable def n_all_like (v_world : Wd) (v_side : Int) (v_one : Plan) (v_other : Plan) : R (Bool) :=
  (((upR (R.ok v_world) : R (D)) >>= fun q1 => (upR (R.ok v_one) : R (D)) >>= fun q2 => n_need_plan q1 q2) >>= fun q16 =>
  (((upR (R.ok v_world) : R (D)) >>= fun q3 => (upR (R.ok v_other) : R (D)) >>= fun q4 => n_need_plan q3 q4) >>= fun q15 =>
  (upR ((((((R.ok v_world) >>= fun q5 => (R.ok v_side) >>= fun q6 => O2.f .idx q5 q6) >>= O1.f .len) >>= fun q7 => rangeN 0 q7) >>= fun q9 => mapN q9 (fun p8 => ((upR (R.ok v_world) : R (Wd)) >>= fun q10 => (upR (R.ok v_side) : R (Int)) >>= fun q11 => (upR (R.ok p8) : R (Int)) >>= fun q12 => (upR (R.ok v_one) : R (Plan)) >>= fun q13 => (upR (R.ok v_other) : R (Plan)) >>= fun q14 => n_likes q10 q11 q12 q13 q14))) >>= O1.f .all) : R (Bool))))
theorem r_all_like (v_world : Wd) (v_side : Int) (v_one : Plan) (v_other : Plan) : Ref (f_all_like [em v_world, em v_side, em v_one, em v_other]) (n_all_like v_world v_side v_one v_other) := by
  delta f_all_like b_all_like n_all_like
  exact r_fn rfl (j_env (s' := [some (em v_world), some (em v_side), some (em v_one), some (em v_other), none]) rfl
  (j_seq (j_exp (r_call2 r_need_plan (ref_up (r_var rfl)) (ref_up (r_var rfl))) (j_seq (j_exp (r_call2 r_need_plan (ref_up (r_var rfl)) (ref_up (r_var rfl))) (j_seq (j_retT (ref_up (r_op1 (r_lcm (r_itRange (r_op1 (r_op2 (r_var rfl) (r_var rfl)))) (fun p8 => [some (em v_world), some (em v_side), some (em v_one), some (em v_other), some (em p8)]) (fun _ => rfl) (fun p8 => (r_call5 r_likes (ref_up (r_var rfl)) (ref_up (r_var rfl)) (ref_up (r_var rfl)) (ref_up (r_var rfl)) (ref_up (r_var rfl))))))))))))))
def b_together : S :=
  (.seq (.exp (.call "need_plan" f_need_plan (.cons (.var 0) (.cons (.var 2) .nil))))
    (.seq (.exp (.call "need_plan" f_need_plan (.cons (.var 0) (.cons (.var 3) .nil))))
    (.seq (.ret (.call "both_ends" f_both_ends (.cons (.var 0) (.cons (.var 1) (.cons (.call "greater" f_greater (.cons (.var 2) (.cons (.var 3) .nil))) .nil)))))
    .skip)))
def f_together : Fn := fnD 4 4 b_together
noncomputable def n_together (v_world : Wd) (v_side : Int) (v_one : Plan) (v_other : Plan) : R (Plan) :=
  (((upR (R.ok v_world) : R (D)) >>= fun q1 => (upR (R.ok v_one) : R (D)) >>= fun q2 => n_need_plan q1 q2) >>= fun q11 =>
  (((upR (R.ok v_world) : R (D)) >>= fun q3 => (upR (R.ok v_other) : R (D)) >>= fun q4 => n_need_plan q3 q4) >>= fun q10 =>
  (upR ((upR (R.ok v_world) : R (Wd)) >>= fun q7 => (upR (R.ok v_side) : R (Int)) >>= fun q8 => (upR ((upR (R.ok v_one) : R (Plan)) >>= fun q5 => (upR (R.ok v_other) : R (Plan)) >>= fun q6 => n_greater q5 q6) : R (Plan)) >>= fun q9 => n_both_ends q7 q8 q9) : R (Plan))))
theorem r_together (v_world : Wd) (v_side : Int) (v_one : Plan) (v_other : Plan) : Ref (f_together [em v_world, em v_side, em v_one, em v_other]) (n_together v_world v_side v_one v_other) := by
  delta f_together b_together n_together
  exact r_fn rfl (j_env (s' := [some (em v_world), some (em v_side), some (em v_one), some (em v_other)]) rfl
  (j_seq (j_exp (r_call2 r_need_plan (ref_up (r_var rfl)) (ref_up (r_var rfl))) (j_seq (j_exp (r_call2 r_need_plan (ref_up (r_var rfl)) (ref_up (r_var rfl))) (j_seq (j_retT (ref_up (r_call3 r_both_ends (ref_up (r_var rfl)) (ref_up (r_var rfl)) (ref_up (r_call2 r_greater (ref_up (r_var rfl)) (ref_up (r_var rfl)))))))))))))
def b_is_single : S :=
  (.seq (.ret (.op2 .eq (.call "givers_best" f_givers_best (.cons (.var 0) .nil)) (.call "takers_best" f_takers_best (.cons (.var 0) .nil))))
    .skip)
def f_is_single : Fn := fnD 1 1 b_is_single
noncomputable def n_is_single (v_world : Wd) : R (Bool) :=
  (upR (((upR (R.ok v_world) : R (Wd)) >>= n_givers_best) >>= fun q3 => ((upR (R.ok v_world) : R (Wd)) >>= n_takers_best) >>= fun q4 => O2.f .eq q3 q4) : R (Bool))
theorem r_is_single (v_world : Wd) : Ref (f_is_single [em v_world]) (n_is_single v_world) := by
  delta f_is_single b_is_single n_is_single
  exact r_fn rfl (j_env (s' := [some (em v_world)]) rfl
  (j_seq (j_retT (ref_up (r_op2 (r_call1 r_givers_best (ref_up (r_var rfl))) (r_call1 r_takers_best (ref_up (r_var rfl))))))))
def b_with_amount : S :=
  (.seq (.exp (.call "need_world" f_need_world (.cons (.var 0) .nil)))
    (.seq (.exp (.call "need_place" f_need_place (.cons (.var 0) (.cons (.var 1) (.cons (.var 2) .nil)))))
    (.seq (.ifS (.notE (.call "is_number" f_is_number (.cons (.var 3) (.cons (.cst (.int 0)) (.cons (.glob "MOST_AMOUNT" (.int 9)) .nil)))))
    (.seq (.raise "NoPlace" 2)
    .skip)
    .skip)
    (.seq (.set 4 (.op2 .add (.op2 .add (.op2 .to (.op2 .idx (.var 0) (.var 1)) (.var 2)) (.tup (.cons (.tup (.cons (.var 3) (.cons (.op2 .idx (.op2 .idx (.op2 .idx (.var 0) (.var 1)) (.var 2)) (.cst (.int 1))) .nil))) .nil))) (.op2 .from_ (.op2 .idx (.var 0) (.var 1)) (.op2 .add (.var 2) (.cst (.int 1))))))
    (.seq (.ret (.ite (.op2 .eq (.var 1) (.cst (.int 0))) (.tup (.cons (.var 4) (.cons (.op2 .idx (.var 0) (.cst (.int 1))) (.cons (.op2 .idx (.var 0) (.cst (.int 2))) .nil)))) (.tup (.cons (.op2 .idx (.var 0) (.cst (.int 0))) (.cons (.var 4) (.cons (.op2 .idx (.var 0) (.cst (.int 2))) .nil))))))
    .skip)))))
def f_with_amount : Fn := fnD 4 5 b_with_amount
noncomputable def n_with_amount (v_world : Wd) (v_side : Int) (v_place : Int) (v_amount : Int) : R (Wd) :=
  (((upR (R.ok v_world) : R (D)) >>= n_need_world) >>= fun q43 =>
  (((upR (R.ok v_world) : R (Wd)) >>= fun q2 => (upR (R.ok v_side) : R (Int)) >>= fun q3 => (upR (R.ok v_place) : R (D)) >>= fun q4 => n_need_place q2 q3 q4) >>= fun q42 =>
  ((((upR (R.ok v_amount) : R (D)) >>= fun q5 => (upR (R.ok (0 : Int)) : R (Int)) >>= fun q6 => (upR (R.ok (9 : Int)) : R (Int)) >>= fun q7 => n_is_number q5 q6 q7) >>= fun q8 => R.ok (!q8)) >>= fun q9 => if q9 then (R.ex 2)
  else ((((((R.ok v_world) >>= fun q10 => (R.ok v_side) >>= fun q11 => O2.f .idx q10 q11) >>= fun q12 => (R.ok v_place) >>= fun q13 => O2.f .to q12 q13) >>= fun q23 => ((((R.ok v_amount) >>= fun q18 => ((((R.ok v_world) >>= fun q14 => (R.ok v_side) >>= fun q15 => O2.f .idx q14 q15) >>= fun q16 => (R.ok v_place) >>= fun q17 => O2.f .idx q16 q17) >>= OC.f .idx 1) >>= fun q19 => R.ok ((q18, q19))) >>= fun q20 => (R.ok []) >>= fun q21 => R.ok (q20 :: q21)) >>= fun q22 => R.ok (Tp.mk q22)) >>= fun q24 => O2.f .add q23 q24) >>= fun q31 => (((R.ok v_world) >>= fun q25 => (R.ok v_side) >>= fun q26 => O2.f .idx q25 q26) >>= fun q29 => ((R.ok v_place) >>= fun q27 => (R.ok (1 : Int)) >>= fun q28 => O2.f .add q27 q28) >>= fun q30 => O2.f .from_ q29 q30) >>= fun q32 => O2.f .add q31 q32) >>= fun v_rows =>
  (upR (((R.ok v_side) >>= fun q33 => (R.ok (0 : Int)) >>= fun q34 => O2.f .eq q33 q34) >>= fun q41 => if q41 then ((R.ok v_rows) >>= fun q35 => ((R.ok v_world) >>= OC.f .idx 1) >>= fun q36 => ((R.ok v_world) >>= OC.f .idx 2) >>= fun q37 => R.ok (T3.mk q35 q36 q37)) else (((R.ok v_world) >>= OC.f .idx 0) >>= fun q38 => (R.ok v_rows) >>= fun q39 => ((R.ok v_world) >>= OC.f .idx 2) >>= fun q40 => R.ok (T3.mk q38 q39 q40))) : R (Wd))))))
theorem r_with_amount (v_world : Wd) (v_side : Int) (v_place : Int) (v_amount : Int) : Ref (f_with_amount [em v_world, em v_side, em v_place, em v_amount]) (n_with_amount v_world v_side v_place v_amount) := by
  delta f_with_amount b_with_amount n_with_amount
  exact r_fn rfl (j_env (s' := [some (em v_world), some (em v_side), some (em v_place), some (em v_amount), none]) rfl
  (j_seq (j_exp (r_call1 r_need_world (ref_up (r_var rfl))) (j_seq (j_exp (r_call3 r_need_place (ref_up (r_var rfl)) (ref_up (r_var rfl)) (ref_up (r_var rfl))) (j_seq (j_if (r_not (r_call3 r_is_number (ref_up (r_var rfl)) (ref_up (r_int _)) (ref_up (r_glob _)))) (j_seq j_raise)
  (j_skip (j_seq (j_set (r_op2 (r_op2 (r_op2 (r_op2 (r_var rfl) (r_var rfl)) (r_var rfl)) (r_tupl (r_cons (r_tup2 (r_var rfl) (r_opc (r_op2 (r_op2 (r_var rfl) (r_var rfl)) (r_var rfl)))) r_nil))) (r_op2 (r_op2 (r_var rfl) (r_var rfl)) (r_op2 (r_var rfl) (r_int _)))) fun v_rows =>
  (j_env (s' := [some (em v_world), some (em v_side), some (em v_place), some (em v_amount), some (em v_rows)]) rfl (j_seq (j_retT (ref_up (r_ite (r_op2 (r_var rfl) (r_int _)) (r_tup3 (r_var rfl) (r_opc (r_var rfl)) (r_opc (r_var rfl))) (r_tup3 (r_opc (r_var rfl)) (r_var rfl) (r_opc (r_var rfl))))))))))))))))))
def b_totals : S :=
  (.seq (.set 1 (.call "givers_best" f_givers_best (.cons (.var 0) .nil)))
    (.seq (.set 2 (.lc [3] (.name 3) (.itRange (.op1 .len (.op2 .idx (.var 0) (.cst (.int 0))))) (.cst (.bool true)) (.call "used" f_used (.cons (.var 0) (.cons (.var 1) (.cons (.cst (.int 0)) (.cons (.var 3) .nil)))))))
    (.seq (.ret (.tup (.cons (.op1 .tupleOf (.var 2)) (.cons (.op1 .tupleOf (.lc [4] (.name 4) (.itRange (.op1 .len (.op2 .idx (.var 0) (.cst (.int 1))))) (.cst (.bool true)) (.call "used" f_used (.cons (.var 0) (.cons (.var 1) (.cons (.cst (.int 1)) (.cons (.var 4) .nil))))))) .nil))))
    .skip)))
def f_totals : Fn := fnD 1 5 b_totals
noncomputable def n_totals (v_world : Wd) : R (Plan × Plan) :=
  (((upR (R.ok v_world) : R (Wd)) >>= n_givers_best) >>= fun v_plan =>
  ((((((R.ok v_world) >>= OC.f .idx 0) >>= O1.f .len) >>= fun q2 => rangeN 0 q2) >>= fun q4 => mapN q4 (fun p3 => ((upR (R.ok v_world) : R (Wd)) >>= fun q5 => (upR (R.ok v_plan) : R (Plan)) >>= fun q6 => (upR (R.ok (0 : Int)) : R (Int)) >>= fun q7 => (upR (R.ok p3) : R (Int)) >>= fun q8 => n_used q5 q6 q7 q8))) >>= fun v_givers =>
  (upR (((R.ok v_givers) >>= O1.f .tupleOf) >>= fun q16 => ((((((R.ok v_world) >>= OC.f .idx 1) >>= O1.f .len) >>= fun q9 => rangeN 0 q9) >>= fun q11 => mapN q11 (fun p10 => ((upR (R.ok v_world) : R (Wd)) >>= fun q12 => (upR (R.ok v_plan) : R (Plan)) >>= fun q13 => (upR (R.ok (1 : Int)) : R (Int)) >>= fun q14 => (upR (R.ok p10) : R (Int)) >>= fun q15 => n_used q12 q13 q14 q15))) >>= O1.f .tupleOf) >>= fun q17 => R.ok ((q16, q17))) : R (Plan × Plan))))
theorem r_totals (v_world : Wd) : Ref (f_totals [em v_world]) (n_totals v_world) := by
  delta f_totals b_totals n_totals
  exact r_fn rfl (j_env (s' := [some (em v_world), none, none, none, none]) rfl
  (j_seq (j_set (r_call1 r_givers_best (ref_up (r_var rfl))) fun v_plan =>
  (j_env (s' := [some (em v_world), some (em v_plan), none, none, none]) rfl (j_seq (j_set (r_lcm (r_itRange (r_op1 (r_opc (r_var rfl)))) (fun p3 => [some (em v_world), some (em v_plan), none, some (em p3), none]) (fun _ => rfl) (fun p3 => (r_call4 r_used (ref_up (r_var rfl)) (ref_up (r_var rfl)) (ref_up (r_int _)) (ref_up (r_var rfl))))) fun v_givers =>
  (j_env (s' := [some (em v_world), some (em v_plan), some (em v_givers), none, none]) rfl (j_seq (j_retT (ref_up (r_tup2 (r_op1 (r_var rfl)) (r_op1 (r_lcm (r_itRange (r_op1 (r_opc (r_var rfl)))) (fun p10 => [some (em v_world), some (em v_plan), some (em v_givers), none, some (em p10)]) (fun _ => rfl) (fun p10 => (r_call4 r_used (ref_up (r_var rfl)) (ref_up (r_var rfl)) (ref_up (r_int _)) (ref_up (r_var rfl)))))))))))))))))
def b_short : S :=
  (.seq (.exp (.call "need_world" f_need_world (.cons (.var 0) .nil)))
    (.seq (.ifS (.notE (.call "is_number" f_is_number (.cons (.var 1) (.cons (.cst (.int 0)) (.cons (.cst (.int 1)) .nil)))))
    (.seq (.raise "NoPlace" 2)
    .skip)
    .skip)
    (.seq (.set 2 (.op2 .idx (.call "totals" f_totals (.cons (.var 0) .nil)) (.var 1)))
    (.seq (.ret (.lc [3, 4] (.tup [3, 4]) (.itEnum (.var 2)) (.op2 .lt (.var 4) (.op2 .idx (.op2 .idx (.op2 .idx (.var 0) (.var 1)) (.var 3)) (.cst (.int 0)))) (.var 3)))
    .skip))))
def f_short : Fn := fnD 2 5 b_short
noncomputable def n_short (v_world : Wd) (v_side : Int) : R (List Int) :=
  (((upR (R.ok v_world) : R (D)) >>= n_need_world) >>= fun q20 =>
  ((((upR (R.ok v_side) : R (D)) >>= fun q2 => (upR (R.ok (0 : Int)) : R (Int)) >>= fun q3 => (upR (R.ok (1 : Int)) : R (Int)) >>= fun q4 => n_is_number q2 q3 q4) >>= fun q5 => R.ok (!q5)) >>= fun q6 => if q6 then (R.ex 2)
  else ((((upR (R.ok v_world) : R (Wd)) >>= n_totals) >>= fun q8 => (R.ok v_side) >>= fun q9 => O2.f .idx q8 q9) >>= fun v_some =>
  (upR (((R.ok v_some) >>= fun q10 => SeqN.f q10 >>= fun q11 => R.ok (enumN q11)) >>= fun q13 => lcN q13 (fun p12 => ((R.ok p12.2) >>= fun q18 => ((((R.ok v_world) >>= fun q14 => (R.ok v_side) >>= fun q15 => O2.f .idx q14 q15) >>= fun q16 => (R.ok p12.1) >>= fun q17 => O2.f .idx q16 q17) >>= OC.f .idx 0) >>= fun q19 => O2.f .lt q18 q19)) (fun p12 => (R.ok p12.1))) : R (List Int)))))
theorem r_short (v_world : Wd) (v_side : Int) : Ref (f_short [em v_world, em v_side]) (n_short v_world v_side) := by
  delta f_short b_short n_short
  exact r_fn rfl (j_env (s' := [some (em v_world), some (em v_side), none, none, none]) rfl
  (j_seq (j_exp (r_call1 r_need_world (ref_up (r_var rfl))) (j_seq (j_if (r_not (r_call3 r_is_number (ref_up (r_var rfl)) (ref_up (r_int _)) (ref_up (r_int _)))) (j_seq j_raise)
  (j_skip (j_seq (j_set (r_op2 (r_call1 r_totals (ref_up (r_var rfl))) (r_var rfl)) fun v_some =>
  (j_env (s' := [some (em v_world), some (em v_side), some (em v_some), none, none]) rfl (j_seq (j_retT (ref_up (r_lc (r_itEnum (r_var rfl)) (fun p12 => [some (em v_world), some (em v_side), some (em v_some), some (em p12.1), some (em p12.2)]) (fun _ => rfl) (fun p12 => (r_op2 (r_var rfl) (r_opc (r_op2 (r_op2 (r_var rfl) (r_var rfl)) (r_var rfl))))) (fun p12 => (r_var rfl)))))))))))))))
def b_need_few : S :=
  (.seq (.exp (.call "need_world" f_need_world (.cons (.var 0) .nil)))
    (.seq (.set 1 (.cst (.int 1)))
    (.seq (.forS [] (.name 2) (.itSeq (.op2 .idx (.var 0) (.cst (.int 2))))
    (.seq (.set 1 (.op2 .mul (.var 1) (.op2 .add (.op2 .idx (.var 2) (.cst (.int 2))) (.cst (.int 1)))))
    .skip))
    (.seq (.ifS (.op2 .gt (.var 1) (.glob "MOST_PLANS" (.int 3000)))
    (.seq (.raise "TooMany" 3)
    .skip)
    .skip)
    .skip))))
def f_need_few : Fn := fnD 1 3 b_need_few
noncomputable def n_need_few (v_world : Wd) : R (Unit) :=
  (((upR (R.ok v_world) : R (D)) >>= n_need_world) >>= fun q13 =>
  ((R.ok (1 : Int)) >>= fun v_many =>
  ((((R.ok v_world) >>= OC.f .idx 2) >>= SeqN.f) >>= fun q12 => forN q12 v_many (fun st2 p4 =>
  (((R.ok st2) >>= fun q7 => (((R.ok p4) >>= OC.f .idx 2) >>= fun q5 => (R.ok (1 : Int)) >>= fun q6 => O2.f .add q5 q6) >>= fun q8 => O2.f .mul q7 q8) >>= fun v_many =>
  (R.ok v_many))) >>= fun st2 =>
  (((R.ok st2) >>= fun q9 => (R.ok (3000 : Int)) >>= fun q10 => O2.f .gt q9 q10) >>= fun q11 => if q11 then (R.ex 3)
  else (R.ok ())))))
theorem r_need_few (v_world : Wd) : Ref (f_need_few [em v_world]) (n_need_few v_world) := by
  delta f_need_few b_need_few n_need_few
  exact r_fnU rfl (j_env (s' := [some (em v_world), none, none]) rfl
  (j_seq (j_exp (r_call1 r_need_world (ref_up (r_var rfl))) (j_seq (j_set (r_int _) fun v_many =>
  (j_env (s' := [some (em v_world), some (em v_many), none]) rfl (j_seq (j_for (ev := (fun st2 s' => ∃ j3, s' = [some (em v_world), some (em st2), j3])) (r_itSeq (r_opc (r_var rfl))) ⟨_, rfl⟩ (fun x s' => s'.set 2 (some (em x))) (fun _ _ _ h0 => by obtain ⟨j3, rfl⟩ := h0; rfl) (fun p4 st2 s0 h0 => by
  obtain ⟨j3, rfl⟩ := h0
  exact j_env (s' := [some (em v_world), some (em st2), some (em p4)]) rfl (j_seq (j_set (r_op2 (r_var rfl) (r_op2 (r_opc (r_var rfl)) (r_int _))) fun v_many =>
  (j_env (s' := [some (em v_world), some (em v_many), some (em p4)]) rfl (j_skip (j_nx ⟨_, rfl⟩)))))) (fun st2 s0 h0 => by
  obtain ⟨j3, rfl⟩ := h0
  exact (j_seq (j_if (r_op2 (r_var rfl) (r_glob _)) (j_seq j_raise)
  (j_skip (j_skip j_endU)))))))))))))
def b_all_plans : S :=
  (.seq (.exp (.call "need_few" f_need_few (.cons (.var 0) .nil)))
    (.seq (.set 1 (.lst (.cons (.tup .nil) .nil)))
    (.seq (.forS [] (.name 2) (.itSeq (.op2 .idx (.var 0) (.cst (.int 2))))
    (.seq (.setO 3 (.lst .nil))
    (.seq (.forS [] (.name 4) (.itSeq (.var 1))
    (.seq (.ext 3 (.lc [5] (.name 5) (.itRange (.op2 .add (.op2 .idx (.var 2) (.cst (.int 2))) (.cst (.int 1)))) (.cst (.bool true)) (.op2 .add (.var 4) (.tup (.cons (.var 5) .nil)))))
    .skip))
    (.frz [3] (.seq (.set 1 (.var 3))
    .skip)))))
    (.seq (.ret (.lc [6] (.name 6) (.itSeq (.var 1)) (.call "is_plan" f_is_plan (.cons (.var 0) (.cons (.var 6) .nil))) (.var 6)))
    .skip))))
def f_all_plans : Fn := fnD 1 7 b_all_plans
noncomputable def n_all_plans (v_world : Wd) : R (List Plan) :=
  (((upR (R.ok v_world) : R (Wd)) >>= n_need_few) >>= fun q30 =>
  ((upR ((upR (R.ok NilT.v) : R (Plan)) >>= fun q2 => (R.ok []) >>= fun q3 => R.ok (q2 :: q3)) : R (List Plan)) >>= fun v_found =>
  ((((R.ok v_world) >>= OC.f .idx 2) >>= SeqN.f) >>= fun q29 => forN q29 v_found (fun st4 p8 =>
  ((upR (R.ok NilL.v) : R (List Plan)) >>= fun v_longer =>
  (((R.ok st4) >>= SeqN.f) >>= fun q24 => forN q24 v_longer (fun st9 p11 =>
  ((((((R.ok p8) >>= OC.f .idx 2) >>= fun q14 => (R.ok (1 : Int)) >>= fun q15 => O2.f .add q14 q15) >>= fun q16 => rangeN 0 q16) >>= fun q18 => mapN q18 (fun p17 => ((R.ok p11) >>= fun q22 => (((R.ok p17) >>= fun q19 => (R.ok []) >>= fun q20 => R.ok (q19 :: q20)) >>= fun q21 => R.ok (Tp.mk q21)) >>= fun q23 => O2.f .add q22 q23))) >>= fun q12 => extN st9 q12 >>= fun v_longer =>
  (R.ok v_longer))) >>= fun st9 =>
  ((upR (R.ok st9) : R (List Plan)) >>= fun v_found =>
  (R.ok v_found))))) >>= fun st4 =>
  (upR (((R.ok st4) >>= SeqN.f) >>= fun q26 => lcN q26 (fun p25 => ((upR (R.ok v_world) : R (Wd)) >>= fun q27 => (upR (R.ok p25) : R (D)) >>= fun q28 => n_is_plan q27 q28)) (fun p25 => (R.ok p25))) : R (List Plan)))))
theorem r_all_plans (v_world : Wd) : Ref (f_all_plans [em v_world]) (n_all_plans v_world) := by
  delta f_all_plans b_all_plans n_all_plans
  exact r_fn rfl (j_env (s' := [some (em v_world), none, none, none, none, none, none]) rfl
  (j_seq (j_exp (r_call1 r_need_few (ref_up (r_var rfl))) (j_seq (j_set (ref_up (r_lst (r_cons (ref_up r_tup0) r_nil))) fun v_found =>
  (j_env (s' := [some (em v_world), some (em v_found), none, none, none, none, none]) rfl (j_seq (j_for (ev := (fun st4 s' => ∃ j5 j6 j7, s' = [some (em v_world), some (em st4), j5, j6, j7, none, none])) (r_itSeq (r_opc (r_var rfl))) ⟨_, _, _, rfl⟩ (fun x s' => s'.set 2 (some (em x))) (fun _ _ _ h0 => by obtain ⟨j5, j6, j7, rfl⟩ := h0; rfl) (fun p8 st4 s0 h0 => by
  obtain ⟨j5, j6, j7, rfl⟩ := h0
  exact j_env (s' := [some (em v_world), some (em st4), some (em p8), j6, j7, none, none]) rfl (j_seq (j_setO (ref_up r_lst0) fun v_longer =>
  (j_env (s' := [some (em v_world), some (em st4), some (em p8), some (em v_longer), j7, none, none]) rfl (j_seq (j_for (ev := (fun st9 s' => ∃ j10, s' = [some (em v_world), some (em st4), some (em p8), some (em st9), j10, none, none])) (r_itSeq (r_var rfl)) ⟨_, rfl⟩ (fun x s' => s'.set 4 (some (em x))) (fun _ _ _ h0 => by obtain ⟨j10, rfl⟩ := h0; rfl) (fun p11 st9 s0 h0 => by
  obtain ⟨j10, rfl⟩ := h0
  exact j_env (s' := [some (em v_world), some (em st4), some (em p8), some (em st9), some (em p11), none, none]) rfl (j_seq (j_ext rfl (r_lcm (r_itRange (r_op2 (r_opc (r_var rfl)) (r_int _))) (fun p17 => [some (em v_world), some (em st4), some (em p8), some (em st9), some (em p11), some (em p17), none]) (fun _ => rfl) (fun p17 => (r_op2 (r_var rfl) (r_tupl (r_cons (r_var rfl) r_nil))))) fun v_longer =>
  (j_env (s' := [some (em v_world), some (em st4), some (em p8), some (em v_longer), some (em p11), none, none]) rfl (j_skip (j_nx ⟨_, rfl⟩)))))) (fun st9 s0 h0 => by
  obtain ⟨j10, rfl⟩ := h0
  exact (j_frz (j_seq (j_set (ref_up (r_var rfl)) fun v_found =>
  (j_env (s' := [some (em v_world), some (em v_found), some (em p8), some (em st9), j10, none, none]) rfl (j_skip (j_nx ⟨_, _, _, rfl⟩))))))))))))) (fun st4 s0 h0 => by
  obtain ⟨j5, j6, j7, rfl⟩ := h0
  exact (j_seq (j_retT (ref_up (r_lc (r_itSeq (r_var rfl)) (fun p25 => [some (em v_world), some (em st4), j5, j6, j7, none, some (em p25)]) (fun _ => rfl) (fun p25 => (r_call2 r_is_plan (ref_up (r_var rfl)) (ref_up (r_var rfl)))) (fun p25 => (r_var rfl)))))))))))))))
def b_all_rests : S :=
  (.seq (.ret (.lc [1] (.name 1) (.itSeq (.call "all_plans" f_all_plans (.cons (.var 0) .nil))) (.call "rests" f_rests (.cons (.var 0) (.cons (.var 1) .nil))) (.var 1)))
    .skip)
def f_all_rests : Fn := fnD 1 2 b_all_rests
noncomputable def n_all_rests (v_world : Wd) : R (List Plan) :=
  (upR ((((upR (R.ok v_world) : R (Wd)) >>= n_all_plans) >>= SeqN.f) >>= fun q3 => lcN q3 (fun p2 => ((upR (R.ok v_world) : R (Wd)) >>= fun q4 => (upR (R.ok p2) : R (Plan)) >>= fun q5 => n_rests q4 q5)) (fun p2 => (R.ok p2))) : R (List Plan))
theorem r_all_rests (v_world : Wd) : Ref (f_all_rests [em v_world]) (n_all_rests v_world) := by
  delta f_all_rests b_all_rests n_all_rests
  exact r_fn rfl (j_env (s' := [some (em v_world), none]) rfl
  (j_seq (j_retT (ref_up (r_lc (r_itSeq (r_call1 r_all_plans (ref_up (r_var rfl)))) (fun p2 => [some (em v_world), some (em p2)]) (fun _ => rfl) (fun p2 => (r_call2 r_rests (ref_up (r_var rfl)) (ref_up (r_var rfl)))) (fun p2 => (r_var rfl)))))))
def b_always : S :=
  (.seq (.set 1 (.call "all_rests" f_all_rests (.cons (.var 0) .nil)))
    (.seq (.setO 2 (.lst .nil))
    (.seq (.forS [] (.name 3) (.itRange (.op1 .len (.op2 .idx (.var 0) (.cst (.int 2)))))
    (.seq (.ifS (.op1 .all (.lc [4] (.name 4) (.itSeq (.var 1)) (.cst (.bool true)) (.op2 .eq (.op2 .idx (.var 4) (.var 3)) (.op2 .idx (.op2 .idx (.var 1) (.cst (.int 0))) (.var 3)))))
    (.seq (.app 2 (.tup (.cons (.var 3) (.cons (.op2 .idx (.op2 .idx (.var 1) (.cst (.int 0))) (.var 3)) .nil))))
    .skip)
    .skip)
    .skip))
    (.seq (.ret (.var 2))
    .skip))))
def f_always : Fn := fnD 1 5 b_always
noncomputable def n_always (v_world : Wd) : R (List (Int × Int)) :=
  (((upR (R.ok v_world) : R (Wd)) >>= n_all_rests) >>= fun v_rows =>
  ((upR (R.ok NilL.v) : R (List (Int × Int))) >>= fun v_found =>
  (((((R.ok v_world) >>= OC.f .idx 2) >>= O1.f .len) >>= fun q4 => rangeN 0 q4) >>= fun q21 => forN q21 v_found (fun st2 p5 =>
  (((((R.ok v_rows) >>= SeqN.f) >>= fun q7 => mapN q7 (fun p6 => (((R.ok p6) >>= fun q8 => (R.ok p5) >>= fun q9 => O2.f .idx q8 q9) >>= fun q12 => (((R.ok v_rows) >>= OC.f .idx 0) >>= fun q10 => (R.ok p5) >>= fun q11 => O2.f .idx q10 q11) >>= fun q13 => O2.f .eq q12 q13))) >>= O1.f .all) >>= fun q14 => if q14 then (((R.ok p5) >>= fun q19 => (((R.ok v_rows) >>= OC.f .idx 0) >>= fun q17 => (R.ok p5) >>= fun q18 => O2.f .idx q17 q18) >>= fun q20 => R.ok ((q19, q20))) >>= fun q15 => appN st2 q15 >>= fun v_found =>
  (R.ok v_found))
  else (R.ok st2))) >>= fun st2 =>
  (upR (R.ok st2) : R (List (Int × Int))))))
theorem r_always (v_world : Wd) : Ref (f_always [em v_world]) (n_always v_world) := by
  delta f_always b_always n_always
  exact r_fn rfl (j_env (s' := [some (em v_world), none, none, none, none]) rfl
  (j_seq (j_set (r_call1 r_all_rests (ref_up (r_var rfl))) fun v_rows =>
  (j_env (s' := [some (em v_world), some (em v_rows), none, none, none]) rfl (j_seq (j_setO (ref_up r_lst0) fun v_found =>
  (j_env (s' := [some (em v_world), some (em v_rows), some (em v_found), none, none]) rfl (j_seq (j_for (ev := (fun st2 s' => ∃ j3, s' = [some (em v_world), some (em v_rows), some (em st2), j3, none])) (r_itRange (r_op1 (r_opc (r_var rfl)))) ⟨_, rfl⟩ (fun x s' => s'.set 3 (some (em x))) (fun _ _ _ h0 => by obtain ⟨j3, rfl⟩ := h0; rfl) (fun p5 st2 s0 h0 => by
  obtain ⟨j3, rfl⟩ := h0
  exact j_env (s' := [some (em v_world), some (em v_rows), some (em st2), some (em p5), none]) rfl (j_seq (j_if (r_op1 (r_lcm (r_itSeq (r_var rfl)) (fun p6 => [some (em v_world), some (em v_rows), some (em st2), some (em p5), some (em p6)]) (fun _ => rfl) (fun p6 => (r_op2 (r_op2 (r_var rfl) (r_var rfl)) (r_op2 (r_opc (r_var rfl)) (r_var rfl)))))) (j_seq (j_app rfl (r_tup2 (r_var rfl) (r_op2 (r_opc (r_var rfl)) (r_var rfl))) fun v_found =>
  (j_env (s' := [some (em v_world), some (em v_rows), some (em v_found), some (em p5), none]) rfl (j_skip (j_skip (j_nx ⟨_, rfl⟩))))))
  (j_skip (j_skip (j_nx ⟨_, rfl⟩)))))) (fun st2 s0 h0 => by
  obtain ⟨j3, rfl⟩ := h0
  exact (j_seq (j_retT (ref_up (r_var rfl))))))))))))))
def b_cost_of : S :=
  (.seq (.set 4 (.call "ways_liked" f_ways_liked (.cons (.var 0) (.cons (.var 1) (.cons (.var 2) .nil)))))
    (.seq (.set 5 (.op1 .sum (.lc [6, 7] (.tup [6, 7]) (.itEnum (.var 4)) (.cst (.bool true)) (.op2 .mul (.var 6) (.op2 .idx (.var 3) (.var 7))))))
    (.seq (.ret (.op2 .add (.var 5) (.op2 .mul (.op1 .len (.var 4)) (.op2 .sub (.op2 .idx (.op2 .idx (.op2 .idx (.var 0) (.var 1)) (.var 2)) (.cst (.int 0))) (.call "used" f_used (.cons (.var 0) (.cons (.var 3) (.cons (.var 1) (.cons (.var 2) .nil)))))))))
    .skip)))
def f_cost_of : Fn := fnD 4 8 b_cost_of
noncomputable def n_cost_of (v_world : Wd) (v_side : Int) (v_place : Int) (v_plan : Plan) : R (Int) :=
  (((upR (R.ok v_world) : R (Wd)) >>= fun q1 => (upR (R.ok v_side) : R (Int)) >>= fun q2 => (upR (R.ok v_place) : R (Int)) >>= fun q3 => n_ways_liked q1 q2 q3) >>= fun v_row =>
  (((((R.ok v_row) >>= fun q4 => SeqN.f q4 >>= fun q5 => R.ok (enumN q5)) >>= fun q7 => mapN q7 (fun p6 => ((R.ok p6.1) >>= fun q10 => ((R.ok v_plan) >>= fun q8 => (R.ok p6.2) >>= fun q9 => O2.f .idx q8 q9) >>= fun q11 => O2.f .mul q10 q11))) >>= O1.f .sum) >>= fun v_gone =>
  (upR ((R.ok v_gone) >>= fun q24 => (((R.ok v_row) >>= O1.f .len) >>= fun q22 => (((((R.ok v_world) >>= fun q12 => (R.ok v_side) >>= fun q13 => O2.f .idx q12 q13) >>= fun q14 => (R.ok v_place) >>= fun q15 => O2.f .idx q14 q15) >>= OC.f .idx 0) >>= fun q20 => ((upR (R.ok v_world) : R (Wd)) >>= fun q16 => (upR (R.ok v_plan) : R (Plan)) >>= fun q17 => (upR (R.ok v_side) : R (Int)) >>= fun q18 => (upR (R.ok v_place) : R (Int)) >>= fun q19 => n_used q16 q17 q18 q19) >>= fun q21 => O2.f .sub q20 q21) >>= fun q23 => O2.f .mul q22 q23) >>= fun q25 => O2.f .add q24 q25) : R (Int))))
theorem r_cost_of (v_world : Wd) (v_side : Int) (v_place : Int) (v_plan : Plan) : Ref (f_cost_of [em v_world, em v_side, em v_place, em v_plan]) (n_cost_of v_world v_side v_place v_plan) := by
  delta f_cost_of b_cost_of n_cost_of
  exact r_fn rfl (j_env (s' := [some (em v_world), some (em v_side), some (em v_place), some (em v_plan), none, none, none, none]) rfl
  (j_seq (j_set (r_call3 r_ways_liked (ref_up (r_var rfl)) (ref_up (r_var rfl)) (ref_up (r_var rfl))) fun v_row =>
  (j_env (s' := [some (em v_world), some (em v_side), some (em v_place), some (em v_plan), some (em v_row), none, none, none]) rfl (j_seq (j_set (r_op1 (r_lcm (r_itEnum (r_var rfl)) (fun p6 => [some (em v_world), some (em v_side), some (em v_place), some (em v_plan), some (em v_row), none, some (em p6.1), some (em p6.2)]) (fun _ => rfl) (fun p6 => (r_op2 (r_var rfl) (r_op2 (r_var rfl) (r_var rfl)))))) fun v_gone =>
  (j_env (s' := [some (em v_world), some (em v_side), some (em v_place), some (em v_plan), some (em v_row), some (em v_gone), none, none]) rfl (j_seq (j_retT (ref_up (r_op2 (r_var rfl) (r_op2 (r_op1 (r_var rfl)) (r_op2 (r_opc (r_op2 (r_op2 (r_var rfl) (r_var rfl)) (r_var rfl))) (r_call4 r_used (ref_up (r_var rfl)) (ref_up (r_var rfl)) (ref_up (r_var rfl)) (ref_up (r_var rfl))))))))))))))))
def b_cost : S :=
  (.seq (.exp (.call "need_plan" f_need_plan (.cons (.var 0) (.cons (.var 3) .nil))))
    (.seq (.exp (.call "need_place" f_need_place (.cons (.var 0) (.cons (.var 1) (.cons (.var 2) .nil)))))
    (.seq (.ret (.call "cost_of" f_cost_of (.cons (.var 0) (.cons (.var 1) (.cons (.var 2) (.cons (.var 3) .nil))))))
    .skip)))
def f_cost : Fn := fnD 4 4 b_cost
noncomputable def n_cost (v_world : Wd) (v_side : Int) (v_place : Int) (v_plan : Plan) : R (Int) :=
  (((upR (R.ok v_world) : R (D)) >>= fun q1 => (upR (R.ok v_plan) : R (D)) >>= fun q2 => n_need_plan q1 q2) >>= fun q11 =>
  (((upR (R.ok v_world) : R (Wd)) >>= fun q3 => (upR (R.ok v_side) : R (Int)) >>= fun q4 => (upR (R.ok v_place) : R (D)) >>= fun q5 => n_need_place q3 q4 q5) >>= fun q10 =>
  (upR ((upR (R.ok v_world) : R (Wd)) >>= fun q6 => (upR (R.ok v_side) : R (Int)) >>= fun q7 => (upR (R.ok v_place) : R (Int)) >>= fun q8 => (upR (R.ok v_plan) : R (Plan)) >>= fun q9 => n_cost_of q6 q7 q8 q9) : R (Int))))
theorem r_cost (v_world : Wd) (v_side : Int) (v_place : Int) (v_plan : Plan) : Ref (f_cost [em v_world, em v_side, em v_place, em v_plan]) (n_cost v_world v_side v_place v_plan) := by
  delta f_cost b_cost n_cost
  exact r_fn rfl (j_env (s' := [some (em v_world), some (em v_side), some (em v_place), some (em v_plan)]) rfl
  (j_seq (j_exp (r_call2 r_need_plan (ref_up (r_var rfl)) (ref_up (r_var rfl))) (j_seq (j_exp (r_call3 r_need_place (ref_up (r_var rfl)) (ref_up (r_var rfl)) (ref_up (r_var rfl))) (j_seq (j_retT (ref_up (r_call4 r_cost_of (ref_up (r_var rfl)) (ref_up (r_var rfl)) (ref_up (r_var rfl)) (ref_up (r_var rfl)))))))))))
def b_costs_of : S :=
  (.seq (.setO 2 (.lst .nil))
    (.seq (.forS [] (.name 3) (.itRange (.cst (.int 2)))
    (.seq (.app 2 (.op1 .sum (.lc [4] (.name 4) (.itRange (.op1 .len (.op2 .idx (.var 0) (.var 3)))) (.cst (.bool true)) (.call "cost_of" f_cost_of (.cons (.var 0) (.cons (.var 3) (.cons (.var 4) (.cons (.var 1) .nil))))))))
    .skip))
    (.seq (.ret (.op1 .tupleOf (.var 2)))
    .skip)))
def f_costs_of : Fn := fnD 2 5 b_costs_of
noncomputable def n_costs_of (v_world : Wd) (v_plan : Plan) : R (Plan) :=
  ((upR (R.ok NilL.v) : R (List Int)) >>= fun v_found =>
  (((R.ok (2 : Int)) >>= fun q3 => rangeN 0 q3) >>= fun q16 => forN q16 v_found (fun st1 p4 =>
  (((((((R.ok v_world) >>= fun q7 => (R.ok p4) >>= fun q8 => O2.f .idx q7 q8) >>= O1.f .len) >>= fun q9 => rangeN 0 q9) >>= fun q11 => mapN q11 (fun p10 => ((upR (R.ok v_world) : R (Wd)) >>= fun q12 => (upR (R.ok p4) : R (Int)) >>= fun q13 => (upR (R.ok p10) : R (Int)) >>= fun q14 => (upR (R.ok v_plan) : R (Plan)) >>= fun q15 => n_cost_of q12 q13 q14 q15))) >>= O1.f .sum) >>= fun q5 => appN st1 q5 >>= fun v_found =>
  (R.ok v_found))) >>= fun st1 =>
  (upR ((R.ok st1) >>= O1.f .tupleOf) : R (Plan))))
theorem r_costs_of (v_world : Wd) (v_plan : Plan) : Ref (f_costs_of [em v_world, em v_plan]) (n_costs_of v_world v_plan) := by
  delta f_costs_of b_costs_of n_costs_of
  exact r_fn rfl (j_env (s' := [some (em v_world), some (em v_plan), none, none, none]) rfl
  (j_seq (j_setO (ref_up r_lst0) fun v_found =>
  (j_env (s' := [some (em v_world), some (em v_plan), some (em v_found), none, none]) rfl (j_seq (j_for (ev := (fun st1 s' => ∃ j2, s' = [some (em v_world), some (em v_plan), some (em st1), j2, none])) (r_itRange (r_int _)) ⟨_, rfl⟩ (fun x s' => s'.set 3 (some (em x))) (fun _ _ _ h0 => by obtain ⟨j2, rfl⟩ := h0; rfl) (fun p4 st1 s0 h0 => by
  obtain ⟨j2, rfl⟩ := h0
  exact j_env (s' := [some (em v_world), some (em v_plan), some (em st1), some (em p4), none]) rfl (j_seq (j_app rfl (r_op1 (r_lcm (r_itRange (r_op1 (r_op2 (r_var rfl) (r_var rfl)))) (fun p10 => [some (em v_world), some (em v_plan), some (em st1), some (em p4), some (em p10)]) (fun _ => rfl) (fun p10 => (r_call4 r_cost_of (ref_up (r_var rfl)) (ref_up (r_var rfl)) (ref_up (r_var rfl)) (ref_up (r_var rfl)))))) fun v_found =>
  (j_env (s' := [some (em v_world), some (em v_plan), some (em v_found), some (em p4), none]) rfl (j_skip (j_nx ⟨_, rfl⟩)))))) (fun st1 s0 h0 => by
  obtain ⟨j2, rfl⟩ := h0
  exact (j_seq (j_retT (ref_up (r_op1 (r_var rfl))))))))))))
def b_costs : S :=
  (.seq (.exp (.call "need_plan" f_need_plan (.cons (.var 0) (.cons (.var 1) .nil))))
    (.seq (.ret (.call "costs_of" f_costs_of (.cons (.var 0) (.cons (.var 1) .nil))))
    .skip))
def f_costs : Fn := fnD 2 2 b_costs
noncomputable def n_costs (v_world : Wd) (v_plan : Plan) : R (Plan) :=
  (((upR (R.ok v_world) : R (D)) >>= fun q1 => (upR (R.ok v_plan) : R (D)) >>= fun q2 => n_need_plan q1 q2) >>= fun q5 =>
  (upR ((upR (R.ok v_world) : R (Wd)) >>= fun q3 => (upR (R.ok v_plan) : R (Plan)) >>= fun q4 => n_costs_of q3 q4) : R (Plan)))
theorem r_costs (v_world : Wd) (v_plan : Plan) : Ref (f_costs [em v_world, em v_plan]) (n_costs v_world v_plan) := by
  delta f_costs b_costs n_costs
  exact r_fn rfl (j_env (s' := [some (em v_world), some (em v_plan)]) rfl
  (j_seq (j_exp (r_call2 r_need_plan (ref_up (r_var rfl)) (ref_up (r_var rfl))) (j_seq (j_retT (ref_up (r_call2 r_costs_of (ref_up (r_var rfl)) (ref_up (r_var rfl)))))))))
def b_rank : S :=
  (.seq (.exp (.call "need_plan" f_need_plan (.cons (.var 0) (.cons (.var 3) .nil))))
    (.seq (.exp (.call "need_place" f_need_place (.cons (.var 0) (.cons (.var 1) (.cons (.var 2) .nil)))))
    (.seq (.ret (.op1 .tupleOf (.lc [4] (.name 4) (.itSeq (.call "ways_liked" f_ways_liked (.cons (.var 0) (.cons (.var 1) (.cons (.var 2) .nil))))) (.cst (.bool true)) (.op2 .idx (.var 3) (.var 4)))))
    .skip)))
def f_rank : Fn := fnD 4 5 b_rank
noncomputable def n_rank (v_world : Wd) (v_side : Int) (v_place : Int) (v_plan : Plan) : R (Plan) :=
  (((upR (R.ok v_world) : R (D)) >>= fun q1 => (upR (R.ok v_plan) : R (D)) >>= fun q2 => n_need_plan q1 q2) >>= fun q14 =>
  (((upR (R.ok v_world) : R (Wd)) >>= fun q3 => (upR (R.ok v_side) : R (Int)) >>= fun q4 => (upR (R.ok v_place) : R (D)) >>= fun q5 => n_need_place q3 q4 q5) >>= fun q13 =>
  (upR (((((upR (R.ok v_world) : R (Wd)) >>= fun q6 => (upR (R.ok v_side) : R (Int)) >>= fun q7 => (upR (R.ok v_place) : R (Int)) >>= fun q8 => n_ways_liked q6 q7 q8) >>= SeqN.f) >>= fun q10 => mapN q10 (fun p9 => ((R.ok v_plan) >>= fun q11 => (R.ok p9) >>= fun q12 => O2.f .idx q11 q12))) >>= O1.f .tupleOf) : R (Plan))))
theorem r_rank (v_world : Wd) (v_side : Int) (v_place : Int) (v_plan : Plan) : Ref (f_rank [em v_world, em v_side, em v_place, em v_plan]) (n_rank v_world v_side v_place v_plan) := by
  delta f_rank b_rank n_rank
  exact r_fn rfl (j_env (s' := [some (em v_world), some (em v_side), some (em v_place), some (em v_plan), none]) rfl
  (j_seq (j_exp (r_call2 r_need_plan (ref_up (r_var rfl)) (ref_up (r_var rfl))) (j_seq (j_exp (r_call3 r_need_place (ref_up (r_var rfl)) (ref_up (r_var rfl)) (ref_up (r_var rfl))) (j_seq (j_retT (ref_up (r_op1 (r_lcm (r_itSeq (r_call3 r_ways_liked (ref_up (r_var rfl)) (ref_up (r_var rfl)) (ref_up (r_var rfl)))) (fun p9 => [some (em v_world), some (em v_side), some (em v_place), some (em v_plan), some (em p9)]) (fun _ => rfl) (fun p9 => (r_op2 (r_var rfl) (r_var rfl)))))))))))))
def b_given_up : S :=
  (.seq (.ifS (.op2 .lt (.call "used" f_used (.cons (.var 0) (.cons (.var 1) (.cons (.var 2) (.cons (.var 3) .nil))))) (.op2 .idx (.op2 .idx (.op2 .idx (.var 0) (.var 2)) (.var 3)) (.cst (.int 0))))
    (.seq (.ret (.var 1))
    .skip)
    .skip)
    (.seq (.set 4 (.op2 .idx (.lc [5] (.name 5) (.itSeq (.call "ways_liked" f_ways_liked (.cons (.var 0) (.cons (.var 2) (.cons (.var 3) .nil))))) (.op2 .gt (.op2 .idx (.var 1) (.var 5)) (.cst (.int 0))) (.var 5)) (.op1 .neg (.cst (.int 1)))))
    (.seq (.ret (.op2 .add (.op2 .add (.op2 .to (.var 1) (.var 4)) (.tup (.cons (.op2 .sub (.op2 .idx (.var 1) (.var 4)) (.cst (.int 1))) .nil))) (.op2 .from_ (.var 1) (.op2 .add (.var 4) (.cst (.int 1))))))
    .skip)))
def f_given_up : Fn := fnD 4 6 b_given_up
noncomputable def n_given_up (v_world : Wd) (v_plan : Plan) (v_side : Int) (v_place : Int) : R (Plan) :=
  ((((upR (R.ok v_world) : R (Wd)) >>= fun q1 => (upR (R.ok v_plan) : R (Plan)) >>= fun q2 => (upR (R.ok v_side) : R (Int)) >>= fun q3 => (upR (R.ok v_place) : R (Int)) >>= fun q4 => n_used q1 q2 q3 q4) >>= fun q9 => ((((R.ok v_world) >>= fun q5 => (R.ok v_side) >>= fun q6 => O2.f .idx q5 q6) >>= fun q7 => (R.ok v_place) >>= fun q8 => O2.f .idx q7 q8) >>= OC.f .idx 0) >>= fun q10 => O2.f .lt q9 q10) >>= fun q11 => if q11 then (upR (R.ok v_plan) : R (Plan))
  else ((((((upR (R.ok v_world) : R (Wd)) >>= fun q12 => (upR (R.ok v_side) : R (Int)) >>= fun q13 => (upR (R.ok v_place) : R (Int)) >>= fun q14 => n_ways_liked q12 q13 q14) >>= SeqN.f) >>= fun q16 => lcN q16 (fun p15 => (((R.ok v_plan) >>= fun q17 => (R.ok p15) >>= fun q18 => O2.f .idx q17 q18) >>= fun q19 => (R.ok (0 : Int)) >>= fun q20 => O2.f .gt q19 q20)) (fun p15 => (R.ok p15))) >>= fun q21 => ((R.ok (1 : Int)) >>= O1.f .neg) >>= fun q22 => O2.f .idx q21 q22) >>= fun v_way =>
  (upR ((((R.ok v_plan) >>= fun q23 => (R.ok v_way) >>= fun q24 => O2.f .to q23 q24) >>= fun q32 => (((((R.ok v_plan) >>= fun q25 => (R.ok v_way) >>= fun q26 => O2.f .idx q25 q26) >>= fun q27 => (R.ok (1 : Int)) >>= fun q28 => O2.f .sub q27 q28) >>= fun q29 => (R.ok []) >>= fun q30 => R.ok (q29 :: q30)) >>= fun q31 => R.ok (Tp.mk q31)) >>= fun q33 => O2.f .add q32 q33) >>= fun q38 => ((R.ok v_plan) >>= fun q36 => ((R.ok v_way) >>= fun q34 => (R.ok (1 : Int)) >>= fun q35 => O2.f .add q34 q35) >>= fun q37 => O2.f .from_ q36 q37) >>= fun q39 => O2.f .add q38 q39) : R (Plan))))
theorem r_given_up (v_world : Wd) (v_plan : Plan) (v_side : Int) (v_place : Int) : Ref (f_given_up [em v_world, em v_plan, em v_side, em v_place]) (n_given_up v_world v_plan v_side v_place) := by
  delta f_given_up b_given_up n_given_up
  exact r_fn rfl (j_env (s' := [some (em v_world), some (em v_plan), some (em v_side), some (em v_place), none, none]) rfl
  (j_seq (j_if (r_op2 (r_call4 r_used (ref_up (r_var rfl)) (ref_up (r_var rfl)) (ref_up (r_var rfl)) (ref_up (r_var rfl))) (r_opc (r_op2 (r_op2 (r_var rfl) (r_var rfl)) (r_var rfl)))) (j_seq (j_retT (ref_up (r_var rfl))))
  (j_skip (j_seq (j_set (r_op2 (r_lc (r_itSeq (r_call3 r_ways_liked (ref_up (r_var rfl)) (ref_up (r_var rfl)) (ref_up (r_var rfl)))) (fun p15 => [some (em v_world), some (em v_plan), some (em v_side), some (em v_place), none, some (em p15)]) (fun _ => rfl) (fun p15 => (r_op2 (r_op2 (r_var rfl) (r_var rfl)) (r_int _))) (fun p15 => (r_var rfl))) (r_op1 (r_int _))) fun v_way =>
  (j_env (s' := [some (em v_world), some (em v_plan), some (em v_side), some (em v_place), some (em v_way), none]) rfl (j_seq (j_retT (ref_up (r_op2 (r_op2 (r_op2 (r_var rfl) (r_var rfl)) (r_tupl (r_cons (r_op2 (r_op2 (r_var rfl) (r_var rfl)) (r_int _)) r_nil))) (r_op2 (r_var rfl) (r_op2 (r_var rfl) (r_int _))))))))))))))
def b_pushed_on : S :=
  (.seq (.setT [3, 4, 5] (.op2 .idx (.op2 .idx (.var 0) (.cst (.int 2))) (.var 2)))
    (.seq (.set 1 (.call "given_up" f_given_up (.cons (.var 0) (.cons (.call "given_up" f_given_up (.cons (.var 0) (.cons (.var 1) (.cons (.cst (.int 0)) (.cons (.var 3) .nil))))) (.cons (.cst (.int 1)) (.cons (.var 4) .nil))))))
    (.seq (.ret (.op2 .add (.op2 .add (.op2 .to (.var 1) (.var 2)) (.tup (.cons (.op2 .add (.op2 .idx (.var 1) (.var 2)) (.cst (.int 1))) .nil))) (.op2 .from_ (.var 1) (.op2 .add (.var 2) (.cst (.int 1))))))
    .skip)))
def f_pushed_on : Fn := fnD 3 6 b_pushed_on
noncomputable def n_pushed_on (v_world : Wd) (v_plan : Plan) (v_way : Int) : R (Plan) :=
  ((((R.ok v_world) >>= OC.f .idx 2) >>= fun q1 => (R.ok v_way) >>= fun q2 => O2.f .idx q1 q2) >>= fun q29 => oR (Un3.f q29) >>= fun p3 =>
  (((upR (R.ok v_world) : R (Wd)) >>= fun q8 => (upR ((upR (R.ok v_world) : R (Wd)) >>= fun q4 => (upR (R.ok v_plan) : R (Plan)) >>= fun q5 => (upR (R.ok (0 : Int)) : R (Int)) >>= fun q6 => (upR (R.ok p3.a) : R (Int)) >>= fun q7 => n_given_up q4 q5 q6 q7) : R (Plan)) >>= fun q9 => (upR (R.ok (1 : Int)) : R (Int)) >>= fun q10 => (upR (R.ok p3.b) : R (Int)) >>= fun q11 => n_given_up q8 q9 q10 q11) >>= fun v_plan =>
  (upR ((((R.ok v_plan) >>= fun q12 => (R.ok v_way) >>= fun q13 => O2.f .to q12 q13) >>= fun q21 => (((((R.ok v_plan) >>= fun q14 => (R.ok v_way) >>= fun q15 => O2.f .idx q14 q15) >>= fun q16 => (R.ok (1 : Int)) >>= fun q17 => O2.f .add q16 q17) >>= fun q18 => (R.ok []) >>= fun q19 => R.ok (q18 :: q19)) >>= fun q20 => R.ok (Tp.mk q20)) >>= fun q22 => O2.f .add q21 q22) >>= fun q27 => ((R.ok v_plan) >>= fun q25 => ((R.ok v_way) >>= fun q23 => (R.ok (1 : Int)) >>= fun q24 => O2.f .add q23 q24) >>= fun q26 => O2.f .from_ q25 q26) >>= fun q28 => O2.f .add q27 q28) : R (Plan))))
theorem r_pushed_on (v_world : Wd) (v_plan : Plan) (v_way : Int) : Ref (f_pushed_on [em v_world, em v_plan, em v_way]) (n_pushed_on v_world v_plan v_way) := by
  delta f_pushed_on b_pushed_on n_pushed_on
  exact r_fn rfl (j_env (s' := [some (em v_world), some (em v_plan), some (em v_way), none, none, none]) rfl
  (j_seq (j_setT3 (r_op2 (r_opc (r_var rfl)) (r_var rfl)) fun p3 =>
  (j_env (s' := [some (em v_world), some (em v_plan), some (em v_way), some (em p3.a), some (em p3.b), some (em p3.c)]) rfl (j_seq (j_set (r_call4 r_given_up (ref_up (r_var rfl)) (ref_up (r_call4 r_given_up (ref_up (r_var rfl)) (ref_up (r_var rfl)) (ref_up (r_int _)) (ref_up (r_var rfl)))) (ref_up (r_int _)) (ref_up (r_var rfl))) fun v_plan =>
  (j_env (s' := [some (em v_world), some (em v_plan), some (em v_way), some (em p3.a), some (em p3.b), some (em p3.c)]) rfl (j_seq (j_retT (ref_up (r_op2 (r_op2 (r_op2 (r_var rfl) (r_var rfl)) (r_tupl (r_cons (r_op2 (r_op2 (r_var rfl) (r_var rfl)) (r_int _)) r_nil))) (r_op2 (r_var rfl) (r_op2 (r_var rfl) (r_int _))))))))))))))
def b_pushed : S :=
  (.seq (.set 3 (.call "leaving" f_leaving (.cons (.var 0) (.cons (.var 1) .nil))))
    (.seq (.ifS (.orE (.op1 (.isInst .bool) (.var 2)) (.oneE (.op2 .notin (.var 2) (.var 3))))
    (.seq (.raise "NoPlace" 2)
    .skip)
    .skip)
    (.seq (.ret (.call "pushed_on" f_pushed_on (.cons (.var 0) (.cons (.var 1) (.cons (.var 2) .nil)))))
    .skip)))
def f_pushed : Fn := fnD 3 4 b_pushed
noncomputable def n_pushed (v_world : Wd) (v_plan : Plan) (v_way : Int) : R (Plan) :=
  (((upR (R.ok v_world) : R (Wd)) >>= fun q1 => (upR (R.ok v_plan) : R (Plan)) >>= fun q2 => n_leaving q1 q2) >>= fun v_some =>
  ((((upR (R.ok v_way) : R (D)) >>= O1.f (.isInst .bool)) >>= fun q5 => if q5 then R.ok true else ((R.ok v_way) >>= fun q3 => (R.ok v_some) >>= fun q4 => O2.f .notin q3 q4)) >>= fun q6 => if q6 then (R.ex 2)
  else (upR ((upR (R.ok v_world) : R (Wd)) >>= fun q7 => (upR (R.ok v_plan) : R (Plan)) >>= fun q8 => (upR (R.ok v_way) : R (Int)) >>= fun q9 => n_pushed_on q7 q8 q9) : R (Plan))))
theorem r_pushed (v_world : Wd) (v_plan : Plan) (v_way : Int) : Ref (f_pushed [em v_world, em v_plan, em v_way]) (n_pushed v_world v_plan v_way) := by
  delta f_pushed b_pushed n_pushed
  exact r_fn rfl (j_env (s' := [some (em v_world), some (em v_plan), some (em v_way), none]) rfl
  (j_seq (j_set (r_call2 r_leaving (ref_up (r_var rfl)) (ref_up (r_var rfl))) fun v_some =>
  (j_env (s' := [some (em v_world), some (em v_plan), some (em v_way), some (em v_some)]) rfl (j_seq (j_if (r_or (r_op1 (ref_up (r_var rfl))) (r_one (r_op2 (r_var rfl) (r_var rfl)))) (j_seq j_raise)
  (j_skip (j_seq (j_retT (ref_up (r_call3 r_pushed_on (ref_up (r_var rfl)) (ref_up (r_var rfl)) (ref_up (r_var rfl)))))))))))))
def b_walk_of : S :=
  (.seq (.setO 2 (.lst (.cons (.var 1) .nil)))
    (.seq (.set 3 (.call "leaving" f_leaving (.cons (.var 0) (.cons (.var 1) .nil))))
    (.seq (.whileS 10000 [] (.op2 .ne (.var 3) (.lst .nil))
    (.seq (.set 1 (.call "pushed_on" f_pushed_on (.cons (.var 0) (.cons (.var 1) (.cons (.op2 .idx (.var 3) (.cst (.int 0))) .nil)))))
    (.seq (.ifS (.op2 .isin (.var 1) (.var 2))
    (.seq (.ret (.var 2))
    .skip)
    .skip)
    (.seq (.app 2 (.var 1))
    (.seq (.set 3 (.call "leaving" f_leaving (.cons (.var 0) (.cons (.var 1) .nil))))
    .skip)))))
    (.seq (.ret (.var 2))
    .skip))))
def f_walk_of : Fn := fnD 2 4 b_walk_of
noncomputable def n_walk_of (v_world : Wd) (v_plan : Plan) : R (List Plan) :=
  ((upR ((R.ok v_plan) >>= fun q1 => (R.ok []) >>= fun q2 => R.ok (q1 :: q2)) : R (List Plan)) >>= fun v_found =>
  (((upR (R.ok v_world) : R (Wd)) >>= fun q3 => (upR (R.ok v_plan) : R (Plan)) >>= fun q4 => n_leaving q3 q4) >>= fun v_some =>
  (whileX (ρ := List Plan) 10000 (v_plan, v_found, v_some) (fun st5 => ((R.ok st5.2.2) >>= fun q6 => (R.ok NilL.v) >>= fun q7 => O2.f .ne q6 q7)) (fun st5 =>
  (((upR (R.ok v_world) : R (Wd)) >>= fun q8 => (upR (R.ok st5.1) : R (Plan)) >>= fun q9 => (upR ((R.ok st5.2.2) >>= OC.f .idx 0) : R (Int)) >>= fun q10 => n_pushed_on q8 q9 q10) >>= fun v_plan =>
  (((R.ok v_plan) >>= fun q11 => (R.ok st5.2.1) >>= fun q12 => O2.f .isin q11 q12) >>= fun q13 => if q13 then ((upR (R.ok st5.2.1) : R (List Plan)) >>= fun q14 => R.ok (Nx.ret q14))
  else ((R.ok v_plan) >>= fun q15 => appN st5.2.1 q15 >>= fun v_found =>
  (((upR (R.ok v_world) : R (Wd)) >>= fun q17 => (upR (R.ok v_plan) : R (Plan)) >>= fun q18 => n_leaving q17 q18) >>= fun v_some =>
  (R.ok (Nx.nx (v_plan, v_found, v_some)))))))) >>= fun q19 => nxE q19 (fun st5 =>
  (upR (R.ok st5.2.1) : R (List Plan))) id)))
theorem r_walk_of (v_world : Wd) (v_plan : Plan) : Ref (f_walk_of [em v_world, em v_plan]) (n_walk_of v_world v_plan) := by
  delta f_walk_of b_walk_of n_walk_of
  exact r_fn rfl (j_env (s' := [some (em v_world), some (em v_plan), none, none]) rfl
  (j_seq (j_setO (ref_up (r_lst (r_cons (r_var rfl) r_nil))) fun v_found =>
  (j_env (s' := [some (em v_world), some (em v_plan), some (em v_found), none]) rfl (j_seq (j_set (r_call2 r_leaving (ref_up (r_var rfl)) (ref_up (r_var rfl))) fun v_some =>
  (j_env (s' := [some (em v_world), some (em v_plan), some (em v_found), some (em v_some)]) rfl (j_seq (j_whileX (ev := (fun st5 s' => s' = [some (em v_world), some (em st5.1), some (em st5.2.1), some (em st5.2.2)])) rfl (fun st5 s0 h0 => by cases h0; exact (r_op2 (r_var rfl) r_lst0)) (fun st5 s0 h0 => by
  cases h0
  exact (j_seq (j_set (r_call3 r_pushed_on (ref_up (r_var rfl)) (ref_up (r_var rfl)) (ref_up (r_opc (r_var rfl)))) fun v_plan =>
  (j_env (s' := [some (em v_world), some (em v_plan), some (em st5.2.1), some (em st5.2.2)]) rfl (j_seq (j_if (r_op2 (r_var rfl) (r_var rfl)) (j_seq (j_ret (k := Nx.ret) (ref_up (r_var rfl)) (fun _ => rfl)))
  (j_skip (j_seq (j_app rfl (r_var rfl) fun v_found =>
  (j_env (s' := [some (em v_world), some (em v_plan), some (em v_found), some (em st5.2.2)]) rfl (j_seq (j_set (r_call2 r_leaving (ref_up (r_var rfl)) (ref_up (r_var rfl))) fun v_some =>
  (j_env (s' := [some (em v_world), some (em v_plan), some (em v_found), some (em v_some)]) rfl (j_skip (j_nxX rfl))))))))))))))) (fun _ => rfl) (fun st5 s0 h0 => by
  cases h0
  exact (j_seq (j_retT (ref_up (r_var rfl))))))))))))))
def b_walk : S :=
  (.seq (.exp (.call "need_plan" f_need_plan (.cons (.var 0) (.cons (.var 1) .nil))))
    (.seq (.ret (.call "walk_of" f_walk_of (.cons (.var 0) (.cons (.var 1) .nil))))
    .skip))
def f_walk : Fn := fnD 2 2 b_walk
noncomputable def n_walk (v_world : Wd) (v_plan : Plan) : R (List Plan) :=
  (((upR (R.ok v_world) : R (D)) >>= fun q1 => (upR (R.ok v_plan) : R (D)) >>= fun q2 => n_need_plan q1 q2) >>= fun q5 =>
  (upR ((upR (R.ok v_world) : R (Wd)) >>= fun q3 => (upR (R.ok v_plan) : R (Plan)) >>= fun q4 => n_walk_of q3 q4) : R (List Plan)))
theorem r_walk (v_world : Wd) (v_plan : Plan) : Ref (f_walk [em v_world, em v_plan]) (n_walk v_world v_plan) := by
  delta f_walk b_walk n_walk
  exact r_fn rfl (j_env (s' := [some (em v_world), some (em v_plan)]) rfl
  (j_seq (j_exp (r_call2 r_need_plan (ref_up (r_var rfl)) (ref_up (r_var rfl))) (j_seq (j_retT (ref_up (r_call2 r_walk_of (ref_up (r_var rfl)) (ref_up (r_var rfl)))))))))
def b_comes_to_rest : S :=
  (.seq (.exp (.call "need_plan" f_need_plan (.cons (.var 0) (.cons (.var 1) .nil))))
    (.seq (.ret (.call "rests" f_rests (.cons (.var 0) (.cons (.op2 .idx (.call "walk_of" f_walk_of (.cons (.var 0) (.cons (.var 1) .nil))) (.op1 .neg (.cst (.int 1)))) .nil))))
    .skip))
def f_comes_to_rest : Fn := fnD 2 2 b_comes_to_rest
noncomputable def n_comes_to_rest (v_world : Wd) (v_plan : Plan) : R (Bool) :=
  (((upR (R.ok v_world) : R (D)) >>= fun q1 => (upR (R.ok v_plan) : R (D)) >>= fun q2 => n_need_plan q1 q2) >>= fun q9 =>
  (upR ((upR (R.ok v_world) : R (Wd)) >>= fun q7 => (upR (((upR (R.ok v_world) : R (Wd)) >>= fun q3 => (upR (R.ok v_plan) : R (Plan)) >>= fun q4 => n_walk_of q3 q4) >>= fun q5 => ((R.ok (1 : Int)) >>= O1.f .neg) >>= fun q6 => O2.f .idx q5 q6) : R (Plan)) >>= fun q8 => n_rests q7 q8) : R (Bool)))
theorem r_comes_to_rest (v_world : Wd) (v_plan : Plan) : Ref (f_comes_to_rest [em v_world, em v_plan]) (n_comes_to_rest v_world v_plan) := by
  delta f_comes_to_rest b_comes_to_rest n_comes_to_rest
  exact r_fn rfl (j_env (s' := [some (em v_world), some (em v_plan)]) rfl
  (j_seq (j_exp (r_call2 r_need_plan (ref_up (r_var rfl)) (ref_up (r_var rfl))) (j_seq (j_retT (ref_up (r_call2 r_rests (ref_up (r_var rfl)) (ref_up (r_op2 (r_call2 r_walk_of (ref_up (r_var rfl)) (ref_up (r_var rfl))) (r_op1 (r_int _)))))))))))
def b_need_way : S :=
  (.seq (.ifS (.notE (.call "is_number" f_is_number (.cons (.var 1) (.cons (.cst (.int 0)) (.cons (.op2 .sub (.op1 .len (.op2 .idx (.var 0) (.cst (.int 2)))) (.cst (.int 1))) .nil)))))
    (.seq (.raise "NoPlace" 2)
    .skip)
    .skip)
    .skip)
def f_need_way : Fn := fnD 2 2 b_need_way
noncomputable def n_need_way (v_world : Wd) (v_way : Int) : R (Unit) :=
  ((((upR (R.ok v_way) : R (D)) >>= fun q3 => (upR (R.ok (0 : Int)) : R (Int)) >>= fun q4 => (upR ((((R.ok v_world) >>= OC.f .idx 2) >>= O1.f .len) >>= fun q1 => (R.ok (1 : Int)) >>= fun q2 => O2.f .sub q1 q2) : R (Int)) >>= fun q5 => n_is_number q3 q4 q5) >>= fun q6 => R.ok (!q6)) >>= fun q7 => if q7 then (R.ex 2)
  else (R.ok ()))
theorem r_need_way (v_world : Wd) (v_way : Int) : Ref (f_need_way [em v_world, em v_way]) (n_need_way v_world v_way) := by
  delta f_need_way b_need_way n_need_way
  exact r_fnU rfl (j_env (s' := [some (em v_world), some (em v_way)]) rfl
  (j_seq (j_if (r_not (r_call3 r_is_number (ref_up (r_var rfl)) (ref_up (r_int _)) (ref_up (r_op2 (r_op1 (r_opc (r_var rfl))) (r_int _))))) (j_seq j_raise)
  (j_skip (j_skip j_endU)))))
def b_with_limit : S :=
  (.seq (.exp (.call "need_world" f_need_world (.cons (.var 0) .nil)))
    (.seq (.exp (.call "need_way" f_need_way (.cons (.var 0) (.cons (.var 1) .nil))))
    (.seq (.ifS (.notE (.call "is_number" f_is_number (.cons (.var 2) (.cons (.cst (.int 1)) (.cons (.glob "MOST_AMOUNT" (.int 9)) .nil)))))
    (.seq (.raise "NoPlace" 2)
    .skip)
    .skip)
    (.seq (.ret (.op2 .add (.op2 .to (.var 0) (.cst (.int 2))) (.tup (.cons (.op2 .add (.op2 .add (.op2 .to (.op2 .idx (.var 0) (.cst (.int 2))) (.var 1)) (.tup (.cons (.op2 .add (.op2 .to (.op2 .idx (.op2 .idx (.var 0) (.cst (.int 2))) (.var 1)) (.cst (.int 2))) (.tup (.cons (.var 2) .nil))) .nil))) (.op2 .from_ (.op2 .idx (.var 0) (.cst (.int 2))) (.op2 .add (.var 1) (.cst (.int 1))))) .nil))))
    .skip))))
def f_with_limit : Fn := fnD 3 3 b_with_limit
noncomputable def n_with_limit (v_world : Wd) (v_way : Int) (v_limit : Int) : R (Wd) :=
  (((upR (R.ok v_world) : R (D)) >>= n_need_world) >>= fun q35 =>
  (((upR (R.ok v_world) : R (Wd)) >>= fun q2 => (upR (R.ok v_way) : R (Int)) >>= fun q3 => n_need_way q2 q3) >>= fun q34 =>
  ((((upR (R.ok v_limit) : R (D)) >>= fun q4 => (upR (R.ok (1 : Int)) : R (Int)) >>= fun q5 => (upR (R.ok (9 : Int)) : R (Int)) >>= fun q6 => n_is_number q4 q5 q6) >>= fun q7 => R.ok (!q7)) >>= fun q8 => if q8 then (R.ex 2)
  else (upR (((R.ok v_world) >>= OC.f .to 2) >>= fun q32 => (((((((R.ok v_world) >>= OC.f .idx 2) >>= fun q9 => (R.ok v_way) >>= fun q10 => O2.f .to q9 q10) >>= fun q21 => (((((((R.ok v_world) >>= OC.f .idx 2) >>= fun q11 => (R.ok v_way) >>= fun q12 => O2.f .idx q11 q12) >>= OC.f .to 2) >>= fun q16 => (((R.ok v_limit) >>= fun q13 => (R.ok []) >>= fun q14 => R.ok (q13 :: q14)) >>= fun q15 => R.ok (Tp.mk q15)) >>= fun q17 => O2.f .add q16 q17) >>= fun q18 => (R.ok []) >>= fun q19 => R.ok (q18 :: q19)) >>= fun q20 => R.ok (Tp.mk q20)) >>= fun q22 => O2.f .add q21 q22) >>= fun q27 => (((R.ok v_world) >>= OC.f .idx 2) >>= fun q25 => ((R.ok v_way) >>= fun q23 => (R.ok (1 : Int)) >>= fun q24 => O2.f .add q23 q24) >>= fun q26 => O2.f .from_ q25 q26) >>= fun q28 => O2.f .add q27 q28) >>= fun q29 => (R.ok []) >>= fun q30 => R.ok (q29 :: q30)) >>= fun q31 => R.ok (Tp.mk q31)) >>= fun q33 => O2.f .add q32 q33) : R (Wd)))))
theorem r_with_limit (v_world : Wd) (v_way : Int) (v_limit : Int) : Ref (f_with_limit [em v_world, em v_way, em v_limit]) (n_with_limit v_world v_way v_limit) := by
  delta f_with_limit b_with_limit n_with_limit
  exact r_fn rfl (j_env (s' := [some (em v_world), some (em v_way), some (em v_limit)]) rfl
  (j_seq (j_exp (r_call1 r_need_world (ref_up (r_var rfl))) (j_seq (j_exp (r_call2 r_need_way (ref_up (r_var rfl)) (ref_up (r_var rfl))) (j_seq (j_if (r_not (r_call3 r_is_number (ref_up (r_var rfl)) (ref_up (r_int _)) (ref_up (r_glob _)))) (j_seq j_raise)
  (j_skip (j_seq (j_retT (ref_up (r_op2 (r_opc (r_var rfl)) (r_tupl (r_cons (r_op2 (r_op2 (r_op2 (r_opc (r_var rfl)) (r_var rfl)) (r_tupl (r_cons (r_op2 (r_opc (r_op2 (r_opc (r_var rfl)) (r_var rfl))) (r_tupl (r_cons (r_var rfl) r_nil))) r_nil))) (r_op2 (r_opc (r_var rfl)) (r_op2 (r_var rfl) (r_int _)))) r_nil))))))))))))))
def b_not_liked : S :=
  (.seq (.setT [3, 4] (.op2 .idx (.var 0) (.var 1)))
    (.seq (.ret (.op2 .add (.op2 .add (.op2 .to (.var 0) (.var 1)) (.tup (.cons (.tup (.cons (.var 3) (.cons (.op1 .tupleOf (.lc [5] (.name 5) (.itSeq (.var 4)) (.op2 .ne (.var 5) (.var 2)) (.var 5))) .nil))) .nil))) (.op2 .from_ (.var 0) (.op2 .add (.var 1) (.cst (.int 1))))))
    .skip))
def f_not_liked : Fn := fnD 3 6 b_not_liked
noncomputable def n_not_liked (v_places : Tp Pl) (v_place : Int) (v_other : Int) : R (Tp Pl) :=
  (((R.ok v_places) >>= fun q1 => (R.ok v_place) >>= fun q2 => O2.f .idx q1 q2) >>= fun q23 => oR (Un2.f q23) >>= fun p3 =>
  (upR ((((R.ok v_places) >>= fun q4 => (R.ok v_place) >>= fun q5 => O2.f .to q4 q5) >>= fun q15 => ((((R.ok p3.1) >>= fun q10 => ((((R.ok p3.2) >>= SeqN.f) >>= fun q7 => lcN q7 (fun p6 => ((R.ok p6) >>= fun q8 => (R.ok v_other) >>= fun q9 => O2.f .ne q8 q9)) (fun p6 => (R.ok p6))) >>= O1.f .tupleOf) >>= fun q11 => R.ok ((q10, q11))) >>= fun q12 => (R.ok []) >>= fun q13 => R.ok (q12 :: q13)) >>= fun q14 => R.ok (Tp.mk q14)) >>= fun q16 => O2.f .add q15 q16) >>= fun q21 => ((R.ok v_places) >>= fun q19 => ((R.ok v_place) >>= fun q17 => (R.ok (1 : Int)) >>= fun q18 => O2.f .add q17 q18) >>= fun q20 => O2.f .from_ q19 q20) >>= fun q22 => O2.f .add q21 q22) : R (Tp Pl)))
theorem r_not_liked (v_places : Tp Pl) (v_place : Int) (v_other : Int) : Ref (f_not_liked [em v_places, em v_place, em v_other]) (n_not_liked v_places v_place v_other) := by
  delta f_not_liked b_not_liked n_not_liked
  exact r_fn rfl (j_env (s' := [some (em v_places), some (em v_place), some (em v_other), none, none, none]) rfl
  (j_seq (j_setT2 (r_op2 (r_var rfl) (r_var rfl)) fun p3 =>
  (j_env (s' := [some (em v_places), some (em v_place), some (em v_other), some (em p3.1), some (em p3.2), none]) rfl (j_seq (j_retT (ref_up (r_op2 (r_op2 (r_op2 (r_var rfl) (r_var rfl)) (r_tupl (r_cons (r_tup2 (r_var rfl) (r_op1 (r_lc (r_itSeq (r_var rfl)) (fun p6 => [some (em v_places), some (em v_place), some (em v_other), some (em p3.1), some (em p3.2), some (em p6)]) (fun _ => rfl) (fun p6 => (r_op2 (r_var rfl) (r_var rfl))) (fun p6 => (r_var rfl))))) r_nil))) (r_op2 (r_var rfl) (r_op2 (r_var rfl) (r_int _)))))))))))
def b_without_way : S :=
  (.seq (.exp (.call "need_world" f_need_world (.cons (.var 0) .nil)))
    (.seq (.exp (.call "need_way" f_need_way (.cons (.var 0) (.cons (.var 1) .nil))))
    (.seq (.setT [2, 3, 4] (.op2 .idx (.op2 .idx (.var 0) (.cst (.int 2))) (.var 1)))
    (.seq (.set 5 (.call "not_liked" f_not_liked (.cons (.op2 .idx (.var 0) (.cst (.int 0))) (.cons (.var 2) (.cons (.var 3) .nil)))))
    (.seq (.ret (.tup (.cons (.var 5) (.cons (.call "not_liked" f_not_liked (.cons (.op2 .idx (.var 0) (.cst (.int 1))) (.cons (.var 3) (.cons (.var 2) .nil)))) (.cons (.op2 .add (.op2 .to (.op2 .idx (.var 0) (.cst (.int 2))) (.var 1)) (.op2 .from_ (.op2 .idx (.var 0) (.cst (.int 2))) (.op2 .add (.var 1) (.cst (.int 1))))) .nil)))))
    .skip)))))
def f_without_way : Fn := fnD 2 6 b_without_way
noncomputable def n_without_way (v_world : Wd) (v_way : Int) : R (Wd) :=
  (((upR (R.ok v_world) : R (D)) >>= n_need_world) >>= fun q26 =>
  (((upR (R.ok v_world) : R (Wd)) >>= fun q2 => (upR (R.ok v_way) : R (Int)) >>= fun q3 => n_need_way q2 q3) >>= fun q25 =>
  ((((R.ok v_world) >>= OC.f .idx 2) >>= fun q4 => (R.ok v_way) >>= fun q5 => O2.f .idx q4 q5) >>= fun q24 => oR (Un3.f q24) >>= fun p6 =>
  (((upR ((R.ok v_world) >>= OC.f .idx 0) : R (Tp Pl)) >>= fun q7 => (upR (R.ok p6.a) : R (Int)) >>= fun q8 => (upR (R.ok p6.b) : R (Int)) >>= fun q9 => n_not_liked q7 q8 q9) >>= fun v_givers =>
  (upR ((R.ok v_givers) >>= fun q21 => ((upR ((R.ok v_world) >>= OC.f .idx 1) : R (Tp Pl)) >>= fun q10 => (upR (R.ok p6.b) : R (Int)) >>= fun q11 => (upR (R.ok p6.a) : R (Int)) >>= fun q12 => n_not_liked q10 q11 q12) >>= fun q22 => ((((R.ok v_world) >>= OC.f .idx 2) >>= fun q13 => (R.ok v_way) >>= fun q14 => O2.f .to q13 q14) >>= fun q19 => (((R.ok v_world) >>= OC.f .idx 2) >>= fun q17 => ((R.ok v_way) >>= fun q15 => (R.ok (1 : Int)) >>= fun q16 => O2.f .add q15 q16) >>= fun q18 => O2.f .from_ q17 q18) >>= fun q20 => O2.f .add q19 q20) >>= fun q23 => R.ok (T3.mk q21 q22 q23)) : R (Wd))))))
theorem r_without_way (v_world : Wd) (v_way : Int) : Ref (f_without_way [em v_world, em v_way]) (n_without_way v_world v_way) := by
  delta f_without_way b_without_way n_without_way
  exact r_fn rfl (j_env (s' := [some (em v_world), some (em v_way), none, none, none, none]) rfl
  (j_seq (j_exp (r_call1 r_need_world (ref_up (r_var rfl))) (j_seq (j_exp (r_call2 r_need_way (ref_up (r_var rfl)) (ref_up (r_var rfl))) (j_seq (j_setT3 (r_op2 (r_opc (r_var rfl)) (r_var rfl)) fun p6 =>
  (j_env (s' := [some (em v_world), some (em v_way), some (em p6.a), some (em p6.b), some (em p6.c), none]) rfl (j_seq (j_set (r_call3 r_not_liked (ref_up (r_opc (r_var rfl))) (ref_up (r_var rfl)) (ref_up (r_var rfl))) fun v_givers =>
  (j_env (s' := [some (em v_world), some (em v_way), some (em p6.a), some (em p6.b), some (em p6.c), some (em v_givers)]) rfl (j_seq (j_retT (ref_up (r_tup3 (r_var rfl) (r_call3 r_not_liked (ref_up (r_opc (r_var rfl))) (ref_up (r_var rfl)) (ref_up (r_var rfl))) (r_op2 (r_op2 (r_opc (r_var rfl)) (r_var rfl)) (r_op2 (r_opc (r_var rfl)) (r_op2 (r_var rfl) (r_int _)))))))))))))))))))
def b_paper : S :=
  (.seq (.exp (.call "need_world" f_need_world (.cons (.var 0) .nil)))
    (.seq (.ret (.call "steps" f_steps (.cons (.var 0) .nil)))
    .skip))
def f_paper : Fn := fnD 1 1 b_paper
noncomputable def n_paper (v_world : Wd) : R (List (Int × Int)) :=
  (((upR (R.ok v_world) : R (D)) >>= n_need_world) >>= fun q3 =>
  (upR ((upR (R.ok v_world) : R (Wd)) >>= n_steps) : R (List (Int × Int))))
theorem r_paper (v_world : Wd) : Ref (f_paper [em v_world]) (n_paper v_world) := by
  delta f_paper b_paper n_paper
  exact r_fn rfl (j_env (s' := [some (em v_world)]) rfl
  (j_seq (j_exp (r_call1 r_need_world (ref_up (r_var rfl))) (j_seq (j_retT (ref_up (r_call1 r_steps (ref_up (r_var rfl)))))))))
def b_is_row : S :=
  (.seq (.exp (.call "need_world" f_need_world (.cons (.var 0) .nil)))
    (.seq (.ifS (.orE (.notE (.op1 (.isInst .tuple) (.var 1))) (.oneE (.op2 .ne (.op1 .len (.var 1)) (.cst (.int 2)))))
    (.seq (.ret (.cst (.bool false)))
    .skip)
    .skip)
    (.seq (.ret (.andE (.call "is_number" f_is_number (.cons (.op2 .idx (.var 1) (.cst (.int 0))) (.cons (.cst (.int 0)) (.cons (.op2 .sub (.op1 .len (.op2 .idx (.var 0) (.cst (.int 2)))) (.cst (.int 1))) .nil)))) (.oneE (.call "is_number" f_is_number (.cons (.op2 .idx (.var 1) (.cst (.int 1))) (.cons (.cst (.int 0)) (.cons (.cst (.int 9)) .nil)))))))
    .skip)))
def f_is_row : Fn := fnD 2 2 b_is_row
noncomputable def n_is_row (v_world : Wd) (v_thing : D) : R (Bool) :=
  (((upR (R.ok v_world) : R (D)) >>= n_need_world) >>= fun q16 =>
  (((((upR (R.ok v_thing) : R (D)) >>= O1.f (.isInst .tuple)) >>= fun q2 => R.ok (!q2)) >>= fun q5 => if q5 then R.ok true else (((R.ok v_thing) >>= O1.f .len) >>= fun q3 => (R.ok (2 : Int)) >>= fun q4 => O2.f .ne q3 q4)) >>= fun q6 => if q6 then (upR (R.ok false) : R (Bool))
  else (upR (((upR ((R.ok v_thing) >>= OC.f .idx 0) : R (D)) >>= fun q9 => (upR (R.ok (0 : Int)) : R (Int)) >>= fun q10 => (upR ((((R.ok v_world) >>= OC.f .idx 2) >>= O1.f .len) >>= fun q7 => (R.ok (1 : Int)) >>= fun q8 => O2.f .sub q7 q8) : R (Int)) >>= fun q11 => n_is_number q9 q10 q11) >>= fun q15 => if q15 then ((upR ((R.ok v_thing) >>= OC.f .idx 1) : R (D)) >>= fun q12 => (upR (R.ok (0 : Int)) : R (Int)) >>= fun q13 => (upR (R.ok (9 : Int)) : R (Int)) >>= fun q14 => n_is_number q12 q13 q14) else R.ok false) : R (Bool))))
theorem r_is_row (v_world : Wd) (v_thing : D) : Ref (f_is_row [em v_world, em v_thing]) (n_is_row v_world v_thing) := by
  delta f_is_row b_is_row n_is_row
  exact r_fn rfl (j_env (s' := [some (em v_world), some (em v_thing)]) rfl
  (j_seq (j_exp (r_call1 r_need_world (ref_up (r_var rfl))) (j_seq (j_if (r_or (r_not (r_op1 (ref_up (r_var rfl)))) (r_one (r_op2 (r_op1 (r_var rfl)) (r_int _)))) (j_seq (j_retT (ref_up (r_bool _))))
  (j_skip (j_seq (j_retT (ref_up (r_and (r_call3 r_is_number (ref_up (r_opc (r_var rfl))) (ref_up (r_int _)) (ref_up (r_op2 (r_op1 (r_opc (r_var rfl))) (r_int _)))) (r_one (r_call3 r_is_number (ref_up (r_opc (r_var rfl))) (ref_up (r_int _)) (ref_up (r_int _))))))))))))))
def b_holds : S :=
  (.seq (.exp (.call "need_world" f_need_world (.cons (.var 0) .nil)))
    (.seq (.ifS (.notE (.op1 (.isInst .list) (.var 1)))
    (.seq (.ret (.cst (.bool false)))
    .skip)
    .skip)
    (.seq (.set 2 (.call "limits" f_limits (.cons (.var 0) .nil)))
    (.seq (.forS [] (.name 3) (.itSeq (.var 1))
    (.seq (.ifS (.notE (.call "is_row" f_is_row (.cons (.var 0) (.cons (.var 3) .nil))))
    (.seq (.ret (.cst (.bool false)))
    .skip)
    .skip)
    (.seq (.set 4 (.call "both_ends" f_both_ends (.cons (.var 0) (.cons (.cst (.int 0)) (.cons (.var 2) .nil)))))
    (.seq (.set 5 (.call "both_ends" f_both_ends (.cons (.var 0) (.cons (.cst (.int 1)) (.cons (.var 4) .nil)))))
    (.seq (.ifS (.notE (.chain .le .lt (.op2 .idx (.var 5) (.op2 .idx (.var 3) (.cst (.int 0)))) (.op2 .idx (.var 3) (.cst (.int 1))) (.op2 .idx (.var 4) (.op2 .idx (.var 3) (.cst (.int 0))))))
    (.seq (.ret (.cst (.bool false)))
    .skip)
    .skip)
    (.seq (.set 2 (.call "lowered" f_lowered (.cons (.var 2) (.cons (.op2 .idx (.var 3) (.cst (.int 0))) (.cons (.op2 .idx (.var 3) (.cst (.int 1))) .nil)))))
    .skip))))))
    (.seq (.ret (.cst (.bool true)))
    .skip)))))
def f_holds : Fn := fnD 2 6 b_holds
noncomputable def n_holds (v_world : Wd) (v_rows : List (Int × Int)) : R (Bool) :=
  (((upR (R.ok v_world) : R (D)) >>= n_need_world) >>= fun q37 =>
  ((((upR (R.ok v_rows) : R (D)) >>= O1.f (.isInst .list)) >>= fun q2 => R.ok (!q2)) >>= fun q3 => if q3 then (upR (R.ok false) : R (Bool))
  else (((upR (R.ok v_world) : R (Wd)) >>= n_limits) >>= fun v_caps =>
  (((R.ok v_rows) >>= SeqN.f) >>= fun q35 => forX (ρ := Bool) q35 v_caps (fun st5 p9 =>
  ((((upR (R.ok v_world) : R (Wd)) >>= fun q10 => (upR (R.ok p9) : R (D)) >>= fun q11 => n_is_row q10 q11) >>= fun q12 => R.ok (!q12)) >>= fun q13 => if q13 then ((upR (R.ok false) : R (Bool)) >>= fun q14 => R.ok (Nx.ret q14))
  else (((upR (R.ok v_world) : R (Wd)) >>= fun q15 => (upR (R.ok (0 : Int)) : R (Int)) >>= fun q16 => (upR (R.ok st5) : R (Plan)) >>= fun q17 => n_both_ends q15 q16 q17) >>= fun v_offers =>
  (((upR (R.ok v_world) : R (Wd)) >>= fun q18 => (upR (R.ok (1 : Int)) : R (Int)) >>= fun q19 => (upR (R.ok v_offers) : R (Plan)) >>= fun q20 => n_both_ends q18 q19 q20) >>= fun v_some =>
  (((((R.ok v_some) >>= fun q21 => ((R.ok p9) >>= OC.f .idx 0) >>= fun q22 => O2.f .idx q21 q22) >>= fun q25 => ((R.ok p9) >>= OC.f .idx 1) >>= fun q26 => O2.f .le q25 q26 >>= fun q27 => if q27 then ((R.ok v_offers) >>= fun q23 => ((R.ok p9) >>= OC.f .idx 0) >>= fun q24 => O2.f .idx q23 q24) >>= fun q28 => O2.f .lt q26 q28 else R.ok false) >>= fun q29 => R.ok (!q29)) >>= fun q30 => if q30 then ((upR (R.ok false) : R (Bool)) >>= fun q31 => R.ok (Nx.ret q31))
  else (((upR (R.ok st5) : R (Plan)) >>= fun q32 => (upR ((R.ok p9) >>= OC.f .idx 0) : R (Int)) >>= fun q33 => (upR ((R.ok p9) >>= OC.f .idx 1) : R (Int)) >>= fun q34 => n_lowered q32 q33 q34) >>= fun v_caps =>
  (R.ok (Nx.nx v_caps)))))))) >>= fun q36 => nxE q36 (fun st5 =>
  (upR (R.ok true) : R (Bool))) id))))
theorem r_holds (v_world : Wd) (v_rows : List (Int × Int)) : Ref (f_holds [em v_world, em v_rows]) (n_holds v_world v_rows) := by
  delta f_holds b_holds n_holds
  exact r_fn rfl (j_env (s' := [some (em v_world), some (em v_rows), none, none, none, none]) rfl
  (j_seq (j_exp (r_call1 r_need_world (ref_up (r_var rfl))) (j_seq (j_if (r_not (r_op1 (ref_up (r_var rfl)))) (j_seq (j_retT (ref_up (r_bool _))))
  (j_skip (j_seq (j_set (r_call1 r_limits (ref_up (r_var rfl))) fun v_caps =>
  (j_env (s' := [some (em v_world), some (em v_rows), some (em v_caps), none, none, none]) rfl (j_seq (j_forX (ev := (fun st5 s' => ∃ j6 j7 j8, s' = [some (em v_world), some (em v_rows), some (em st5), j6, j7, j8])) (r_itSeq (r_var rfl)) ⟨_, _, _, rfl⟩ (fun x s' => s'.set 3 (some (em x))) (fun _ _ _ h0 => by obtain ⟨j6, j7, j8, rfl⟩ := h0; rfl) (fun p9 st5 s0 h0 => by
  obtain ⟨j6, j7, j8, rfl⟩ := h0
  exact j_env (s' := [some (em v_world), some (em v_rows), some (em st5), some (em p9), j7, j8]) rfl (j_seq (j_if (r_not (r_call2 r_is_row (ref_up (r_var rfl)) (ref_up (r_var rfl)))) (j_seq (j_ret (k := Nx.ret) (ref_up (r_bool _)) (fun _ => rfl)))
  (j_skip (j_seq (j_set (r_call3 r_both_ends (ref_up (r_var rfl)) (ref_up (r_int _)) (ref_up (r_var rfl))) fun v_offers =>
  (j_env (s' := [some (em v_world), some (em v_rows), some (em st5), some (em p9), some (em v_offers), j8]) rfl (j_seq (j_set (r_call3 r_both_ends (ref_up (r_var rfl)) (ref_up (r_int _)) (ref_up (r_var rfl))) fun v_some =>
  (j_env (s' := [some (em v_world), some (em v_rows), some (em st5), some (em p9), some (em v_offers), some (em v_some)]) rfl (j_seq (j_if (r_not (r_chain (r_op2 (r_var rfl) (r_opc (r_var rfl))) (r_opc (r_var rfl)) (r_op2 (r_var rfl) (r_opc (r_var rfl))))) (j_seq (j_ret (k := Nx.ret) (ref_up (r_bool _)) (fun _ => rfl)))
  (j_skip (j_seq (j_set (r_call3 r_lowered (ref_up (r_var rfl)) (ref_up (r_opc (r_var rfl))) (ref_up (r_opc (r_var rfl)))) fun v_caps =>
  (j_env (s' := [some (em v_world), some (em v_rows), some (em v_caps), some (em p9), some (em v_offers), some (em v_some)]) rfl (j_skip (j_nxX ⟨_, _, _, rfl⟩)))))))))))))))))) (fun _ => rfl) (fun st5 s0 h0 => by
  obtain ⟨j6, j7, j8, rfl⟩ := h0
  exact (j_seq (j_retT (ref_up (r_bool _))))))))))))))))
def b_shows : S :=
  (.seq (.exp (.call "need_plan" f_need_plan (.cons (.var 0) (.cons (.var 1) .nil))))
    (.seq (.ret (.andE (.call "holds" f_holds (.cons (.var 0) (.cons (.var 2) .nil))) (.andE (.call "rests" f_rests (.cons (.var 0) (.cons (.var 1) .nil))) (.oneE (.op2 .eq (.call "both_ends" f_both_ends (.cons (.var 0) (.cons (.cst (.int 0)) (.cons (.call "capped" f_capped (.cons (.var 0) (.cons (.var 2) .nil))) .nil)))) (.var 1))))))
    .skip))
def f_shows : Fn := fnD 3 3 b_shows
noncomputable def n_shows (v_world : Wd) (v_plan : Plan) (v_rows : List (Int × Int)) : R (Bool) :=
  (((upR (R.ok v_world) : R (D)) >>= fun q1 => (upR (R.ok v_plan) : R (D)) >>= fun q2 => n_need_plan q1 q2) >>= fun q16 =>
  (upR (((upR (R.ok v_world) : R (Wd)) >>= fun q3 => (upR (R.ok v_rows) : R (List (Int × Int))) >>= fun q4 => n_holds q3 q4) >>= fun q15 => if q15 then (((upR (R.ok v_world) : R (Wd)) >>= fun q5 => (upR (R.ok v_plan) : R (Plan)) >>= fun q6 => n_rests q5 q6) >>= fun q14 => if q14 then (((upR (R.ok v_world) : R (Wd)) >>= fun q9 => (upR (R.ok (0 : Int)) : R (Int)) >>= fun q10 => (upR ((upR (R.ok v_world) : R (Wd)) >>= fun q7 => (upR (R.ok v_rows) : R (List (Int × Int))) >>= fun q8 => n_capped q7 q8) : R (Plan)) >>= fun q11 => n_both_ends q9 q10 q11) >>= fun q12 => (R.ok v_plan) >>= fun q13 => O2.f .eq q12 q13) else R.ok false) else R.ok false) : R (Bool)))
theorem r_shows (v_world : Wd) (v_plan : Plan) (v_rows : List (Int × Int)) : Ref (f_shows [em v_world, em v_plan, em v_rows]) (n_shows v_world v_plan v_rows) := by
  delta f_shows b_shows n_shows
  exact r_fn rfl (j_env (s' := [some (em v_world), some (em v_plan), some (em v_rows)]) rfl
  (j_seq (j_exp (r_call2 r_need_plan (ref_up (r_var rfl)) (ref_up (r_var rfl))) (j_seq (j_retT (ref_up (r_and (r_call2 r_holds (ref_up (r_var rfl)) (ref_up (r_var rfl))) (r_and (r_call2 r_rests (ref_up (r_var rfl)) (ref_up (r_var rfl))) (r_one (r_op2 (r_call3 r_both_ends (ref_up (r_var rfl)) (ref_up (r_int _)) (ref_up (r_call2 r_capped (ref_up (r_var rfl)) (ref_up (r_var rfl))))) (r_var rfl)))))))))))
def b_caps_of : S :=
  (.seq (.ret (.ite (.call "holds" f_holds (.cons (.var 0) (.cons (.var 1) .nil))) (.call "capped" f_capped (.cons (.var 0) (.cons (.var 1) .nil))) (.cst .none)))
    .skip)
def f_caps_of : Fn := fnD 2 2 b_caps_of
noncomputable def n_caps_of (v_world : Wd) (v_rows : List (Int × Int)) : R (Option Plan) :=
  (upR (((upR (R.ok v_world) : R (Wd)) >>= fun q1 => (upR (R.ok v_rows) : R (List (Int × Int))) >>= fun q2 => n_holds q1 q2) >>= fun q5 => if q5 then (upR ((upR (R.ok v_world) : R (Wd)) >>= fun q3 => (upR (R.ok v_rows) : R (List (Int × Int))) >>= fun q4 => n_capped q3 q4) : R (Option Plan)) else (upR (R.ok NoneV.v) : R (Option Plan))) : R (Option Plan))
theorem r_caps_of (v_world : Wd) (v_rows : List (Int × Int)) : Ref (f_caps_of [em v_world, em v_rows]) (n_caps_of v_world v_rows) := by
  delta f_caps_of b_caps_of n_caps_of
  exact r_fn rfl (j_env (s' := [some (em v_world), some (em v_rows)]) rfl
  (j_seq (j_retT (ref_up (r_ite (r_call2 r_holds (ref_up (r_var rfl)) (ref_up (r_var rfl))) (ref_up (r_call2 r_capped (ref_up (r_var rfl)) (ref_up (r_var rfl)))) (ref_up r_none))))))
def b_is_within : S :=
  (.seq (.exp (.call "need_world" f_need_world (.cons (.var 0) .nil)))
    (.seq (.ret (.andE (.call "is_plan" f_is_plan (.cons (.var 0) (.cons (.var 1) .nil))) (.oneE (.op1 .all (.lc [3, 4] (.tup [3, 4]) (.itZip (.var 1) (.var 2)) (.cst (.bool true)) (.op2 .le (.var 3) (.var 4)))))))
    .skip))
def f_is_within : Fn := fnD 3 5 b_is_within
noncomputable def n_is_within (v_world : Wd) (v_plan : D) (v_caps : Plan) : R (Bool) :=
  (((upR (R.ok v_world) : R (D)) >>= n_need_world) >>= fun q13 =>
  (upR (((upR (R.ok v_world) : R (Wd)) >>= fun q2 => (upR (R.ok v_plan) : R (D)) >>= fun q3 => n_is_plan q2 q3) >>= fun q12 => if q12 then ((((R.ok v_plan) >>= fun q4 => (R.ok v_caps) >>= fun q5 => SeqN.f q4 >>= fun q6 => SeqN.f q5 >>= fun q7 => R.ok (List.zip q6 q7)) >>= fun q9 => mapN q9 (fun p8 => ((R.ok p8.1) >>= fun q10 => (R.ok p8.2) >>= fun q11 => O2.f .le q10 q11))) >>= O1.f .all) else R.ok false) : R (Bool)))
theorem r_is_within (v_world : Wd) (v_plan : D) (v_caps : Plan) : Ref (f_is_within [em v_world, em v_plan, em v_caps]) (n_is_within v_world v_plan v_caps) := by
  delta f_is_within b_is_within n_is_within
  exact r_fn rfl (j_env (s' := [some (em v_world), some (em v_plan), some (em v_caps), none, none]) rfl
  (j_seq (j_exp (r_call1 r_need_world (ref_up (r_var rfl))) (j_seq (j_retT (ref_up (r_and (r_call2 r_is_plan (ref_up (r_var rfl)) (ref_up (r_var rfl))) (r_one (r_op1 (r_lcm (r_itZip (r_var rfl) (r_var rfl)) (fun p8 => [some (em v_world), some (em v_plan), some (em v_caps), some (em p8.1), some (em p8.2)]) (fun _ => rfl) (fun p8 => (r_op2 (r_var rfl) (r_var rfl)))))))))))))
end Lw

/-! Stable flows: the plain law. -/
namespace Mt
/-- the sum of the first ones -/
def sm : Nat → (Nat → Int) → Int
  | 0, _ => 0
  | n + 1, f => sm n f + f n
theorem sm_congr {f g : Nat → Int} : ∀ {n : Nat}, (∀ i, i < n → f i = g i) → sm n f = sm n g
  | 0, _ => rfl
  | n + 1, h => by
    show sm n f + f n = sm n g + g n
    rw [sm_congr (n := n) fun i hi => h i (by omega), h n (by omega)]
theorem sm_le {f g : Nat → Int} : ∀ {n : Nat}, (∀ i, i < n → f i ≤ g i) → sm n f ≤ sm n g
  | 0, _ => Int.le_refl _
  | n + 1, h => by
    have h1 := sm_le (n := n) fun i hi => h i (by omega)
    have h2 := h n (by omega)
    show sm n f + f n ≤ sm n g + g n
    omega
theorem sm_add {f g : Nat → Int} : ∀ {n : Nat}, sm n (fun i => f i + g i) = sm n f + sm n g
  | 0 => rfl
  | n + 1 => by
    show sm n _ + (f n + g n) = (sm n f + f n) + (sm n g + g n)
    rw [sm_add (n := n)]; omega
theorem sm_sub {f g : Nat → Int} : ∀ {n : Nat}, sm n (fun i => f i - g i) = sm n f - sm n g
  | 0 => rfl
  | n + 1 => by
    show sm n _ + (f n - g n) = (sm n f + f n) - (sm n g + g n)
    rw [sm_sub (n := n)]; omega
theorem sm_zero : ∀ {n : Nat}, sm n (fun _ => 0) = 0
  | 0 => rfl
  | n + 1 => by show sm n _ + 0 = 0; rw [sm_zero (n := n)]; rfl
theorem sm_nonneg {f : Nat → Int} {n : Nat} (h : ∀ i, i < n → 0 ≤ f i) : 0 ≤ sm n f := by
  have := sm_le (f := fun _ => 0) (g := f) h
  rw [sm_zero] at this; exact this
theorem sm_swap {f : Nat → Nat → Int} {m : Nat} : ∀ {n : Nat}, sm n (fun i => sm m fun j => f i j) = sm m (fun j => sm n fun i => f i j)
  | 0 => by
    show 0 = sm m fun _ => 0
    rw [sm_zero]
  | n + 1 => by
    show sm n _ + sm m (fun j => f n j) = sm m (fun j => sm n (fun i => f i j) + f n j)
    rw [sm_swap (n := n), sm_add]
/-- one alone -/
theorem sm_one {n k : Nat} {c : Int} (h : k < n) : sm n (fun i => if i = k then c else 0) = c := by
  induction n with
  | zero => omega
  | succ n ih =>
    show sm n _ + (if n = k then c else 0) = c
    by_cases e : n = k
    · rw [if_pos e, sm_congr (g := fun _ => 0) (fun i hi => if_neg (by omega)), sm_zero]; omega
    · rw [if_neg e, ih (by omega)]; omega
theorem sm_le_eq {f g : Nat → Int} {n : Nat} (h : ∀ i, i < n → f i ≤ g i) (hs : sm n g ≤ sm n f) : ∀ i, i < n → f i = g i := by
  induction n with
  | zero => intro i hi; omega
  | succ n ih =>
    have h1 := sm_le (f := f) (g := g) (n := n) fun i hi => h i (by omega)
    have h2 := h n (by omega)
    have hs' : sm n g + g n ≤ sm n f + f n := hs
    intro i hi
    by_cases e : i = n
    · subst e; omega
    · exact ih (fun i hi => h i (by omega)) (by omega) i (by omega)
theorem sm_term {f : Nat → Int} {n k : Nat} (h : ∀ i, i < n → 0 ≤ f i) (hk : k < n) : f k ≤ sm n f := by
  have := sm_le (f := fun i => if i = k then f k else 0) (g := f) (n := n) fun i hi => by
    by_cases e : i = k
    · subst e; simp
    · simp [e]; exact h i hi
  rw [sm_one hk] at this
  exact this
/-- one side -/
structure Sd where
  K : Nat
  e : Nat → Nat
  rk : Nat → Nat
  A : Nat → Int
structure Mk where
  n : Nat
  lim : Nat → Int
  G : Sd
  T : Sd
/-- a side of a market -/
structure Sd.Ok (d : Sd) (n : Nat) : Prop where
  e : ∀ i, i < n → d.e i < d.K
  A : ∀ p, 0 ≤ d.A p
  inj : ∀ i j, i < n → j < n → d.e i = d.e j → d.rk i = d.rk j → i = j
structure Mk.Ok (M : Mk) : Prop where
  G : M.G.Ok M.n
  T : M.T.Ok M.n
  lim : ∀ i, i < M.n → 0 ≤ M.lim i
def Mk.flip (M : Mk) : Mk := ⟨M.n, M.lim, M.T, M.G⟩
theorem Mk.Ok.flip {M : Mk} (h : M.Ok) : M.flip.Ok := ⟨h.T, h.G, h.lim⟩
section
variable (n : Nat) (d : Sd)
/-- what goes on the ways of an end that it likes no less -/
def S (x : Nat → Int) (i : Nat) : Int := sm n fun j => if d.e j = d.e i ∧ d.rk j ≤ d.rk i then x j else 0
/-- what goes at a place -/
def tot (x : Nat → Int) (p : Nat) : Int := sm n fun j => if d.e j = p then x j else 0
/-- what a side chooses -/
def C (lim o : Nat → Int) (i : Nat) : Int :=
  min (d.A (d.e i)) (S n d (fun j => min (o j) (lim j)) i) - min (d.A (d.e i)) (S n d (fun j => min (o j) (lim j)) i - min (o i) (lim i))
end
section
variable {n : Nat} {d : Sd} {x y : Nat → Int} {i j p : Nat}
theorem S_congr (h : ∀ i, i < n → x i = y i) (i : Nat) : S n d x i = S n d y i := sm_congr fun j hj => by rw [h j hj]
theorem tot_congr (h : ∀ i, i < n → x i = y i) (p : Nat) : tot n d x p = tot n d y p := sm_congr fun j hj => by rw [h j hj]
theorem S_le (h : ∀ i, i < n → x i ≤ y i) (i : Nat) : S n d x i ≤ S n d y i := sm_le fun j hj => by
  have := h j hj
  split <;> omega
theorem tot_le (h : ∀ i, i < n → x i ≤ y i) (p : Nat) : tot n d x p ≤ tot n d y p := sm_le fun j hj => by
  have := h j hj
  split <;> omega
theorem S_le_tot (h : ∀ i, i < n → 0 ≤ x i) (i : Nat) : S n d x i ≤ tot n d x (d.e i) := sm_le fun j hj => by
  have := h j hj
  by_cases c : d.e j = d.e i
  · by_cases c2 : d.rk j ≤ d.rk i
    · rw [if_pos ⟨c, c2⟩, if_pos c]; omega
    · rw [if_neg (fun z => c2 z.2), if_pos c]; exact this
  · rw [if_neg (fun z => c z.1), if_neg c]; omega
theorem S_self (h : ∀ i, i < n → 0 ≤ x i) (hi : i < n) : x i ≤ S n d x i := by
  have := sm_term (f := fun j => if d.e j = d.e i ∧ d.rk j ≤ d.rk i then x j else 0) (n := n) (k := i) (fun j hj => by
    have := h j hj
    split <;> omega) hi
  unfold S
  simpa using this
theorem S_nonneg (h : ∀ i, i < n → 0 ≤ x i) (i : Nat) : 0 ≤ S n d x i := sm_nonneg fun j hj => by
    have := h j hj
    split <;> omega
theorem tot_nonneg (h : ∀ i, i < n → 0 ≤ x i) (i : Nat) : 0 ≤ tot n d x i := sm_nonneg fun j hj => by
    have := h j hj
    split <;> omega
theorem S_add (i : Nat) : S n d (fun j => x j + y j) i = S n d x i + S n d y i := by
  unfold S
  rw [← sm_add]
  exact sm_congr fun j _ => by dsimp only; split <;> omega
theorem tot_add (i : Nat) : tot n d (fun j => x j + y j) i = tot n d x i + tot n d y i := by
  unfold tot
  rw [← sm_add]
  exact sm_congr fun j _ => by dsimp only; split <;> omega
/-- of two at one end the one that is liked more, and what lies between -/
theorem S_lt (ok : d.Ok n) (h : ∀ i, i < n → 0 ≤ x i) (hi : i < n) (hj : j < n) (he : d.e j = d.e i) (hr : d.rk j < d.rk i) : S n d x j ≤ S n d x i - x i := by
  have e1 : S n d x i - x i = sm n fun k => (if d.e k = d.e i ∧ d.rk k ≤ d.rk i then x k else 0) - (if k = i then x i else 0) := by
    rw [sm_sub, sm_one hi]; rfl
  rw [e1]
  refine sm_le fun k hk => ?_
  have := h k hk
  have hii := h i hi
  by_cases ki : k = i
  · subst ki
    rw [if_neg (fun z => by omega), if_pos ⟨rfl, Nat.le_refl _⟩, if_pos rfl]; omega
  · rw [if_neg ki]
    by_cases c : d.e k = d.e j ∧ d.rk k ≤ d.rk j
    · rw [if_pos c, if_pos ⟨by rw [c.1, he], by omega⟩]; omega
    · rw [if_neg c]
      split <;> omega
/-- the one that is liked next more, if any -/
theorem pred (ok : d.Ok n) (hi : i < n) : (∀ x, S n d x i = x i) ∨ ∃ j, j < n ∧ d.e j = d.e i ∧ d.rk j < d.rk i ∧ ∀ x, S n d x i = S n d x j + x i := by
  have key : ∀ m, m ≤ d.rk i → (∀ k, k < n → d.e k = d.e i → d.rk k < d.rk i → d.rk k < m) → (∀ x, S n d x i = x i) ∨ ∃ j, j < n ∧ d.e j = d.e i ∧ d.rk j < d.rk i ∧ ∀ x, S n d x i = S n d x j + x i := fun m => by
    induction m with
    | zero =>
      intro _ h
      left
      intro x
      have : S n d x i = sm n fun j => if j = i then x i else 0 := sm_congr fun j hj => by
        by_cases e : j = i
        · subst e; simp
        · rw [if_neg e]
          refine if_neg fun z => ?_
          have := h j hj z.1
          have hne : d.rk j ≠ d.rk i := fun q => e (ok.inj j i hj hi z.1 q)
          have := z.2
          omega
      rw [this, sm_one hi]
    | succ m ih =>
      intro hm h
      by_cases ex : ∃ j, j < n ∧ d.e j = d.e i ∧ d.rk j = m
      · obtain ⟨j, hj, he, hr⟩ := ex
        right
        refine ⟨j, hj, he, by omega, fun x => ?_⟩
        have : S n d x i = sm n fun k => (if d.e k = d.e j ∧ d.rk k ≤ d.rk j then x k else 0) + (if k = i then x i else 0) := sm_congr fun k hk => by
          by_cases ki : k = i
          · subst ki
            rw [if_pos ⟨rfl, Nat.le_refl _⟩, if_pos rfl, if_neg (fun z => by omega)]; omega
          · rw [if_neg ki]
            by_cases c : d.e k = d.e i ∧ d.rk k ≤ d.rk i
            · have hne : d.rk k ≠ d.rk i := fun q => ki (ok.inj k i hk hi c.1 q)
              have := h k hk c.1 (by have := c.2; omega)
              rw [if_pos c, if_pos ⟨by rw [c.1, he], by omega⟩]; omega
            · rw [if_neg c, if_neg (fun z => c ⟨by rw [z.1, he], by have := z.2; omega⟩)]; omega
        rw [this, sm_add, sm_one hi]; rfl
      · exact ih (by omega) fun k hk he hr => by
          have h1 := h k hk he hr
          have : d.rk k ≠ m := fun q => ex ⟨k, hk, he, q⟩
          omega
  exact key (d.rk i) (Nat.le_refl _) fun k _ _ h => h
/-- the one that a place likes least -/
theorem last (ok : d.Ok n) (p : Nat) : (∀ x, tot n d x p = 0) ∨ ∃ i, i < n ∧ d.e i = p ∧ ∀ x, tot n d x p = S n d x i := by
  have key : ∀ m, (∀ k, k < n → d.e k = p → d.rk k < m) → (∀ x, tot n d x p = 0) ∨ ∃ i, i < n ∧ d.e i = p ∧ ∀ x, tot n d x p = S n d x i := fun m => by
    induction m with
    | zero =>
      intro h
      left
      intro x
      have : tot n d x p = sm n fun _ => 0 := sm_congr fun j hj => if_neg fun z => by have := h j hj z; omega
      rw [this, sm_zero]
    | succ m ih =>
      intro h
      by_cases ex : ∃ j, j < n ∧ d.e j = p ∧ d.rk j = m
      · obtain ⟨j, hj, he, hr⟩ := ex
        right
        refine ⟨j, hj, he, fun x => sm_congr fun k hk => ?_⟩
        by_cases c : d.e k = p
        · have := h k hk c
          rw [if_pos c, if_pos ⟨by rw [c, he], by omega⟩]
        · rw [if_neg c, if_neg (fun z => c (by rw [z.1, he]))]
      · exact ih fun k hk he => by
          have h1 := h k hk he
          have : d.rk k ≠ m := fun q => ex ⟨k, hk, he, q⟩
          omega
  have bound : ∃ m, ∀ k, k < n → d.rk k < m := by
    clear key
    generalize n = n
    induction n with
    | zero => exact ⟨0, fun k hk => by omega⟩
    | succ n ih =>
      obtain ⟨m, hm⟩ := ih
      refine ⟨max m (d.rk n + 1), fun k hk => ?_⟩
      by_cases c : k = n
      · subst c; omega
      · have := hm k (by omega); omega
  obtain ⟨m, hm⟩ := bound
  exact key m fun k hk _ => hm k hk
variable {lim o o' : Nat → Int}
theorem S_C (ok : d.Ok n) (ho : ∀ i, i < n → 0 ≤ o i) (hl : ∀ i, i < n → 0 ≤ lim i) : ∀ i, i < n → S n d (C n d lim o) i = min (d.A (d.e i)) (S n d (fun j => min (o j) (lim j)) i) := by
  have key : ∀ m i, i < n → d.rk i < m → S n d (C n d lim o) i = min (d.A (d.e i)) (S n d (fun j => min (o j) (lim j)) i) := fun m => by
    induction m with
    | zero => intro i _ h; omega
    | succ m ih =>
      intro i hi hm
      have hA := ok.A (d.e i)
      have h1 := ho i hi
      have h2 := hl i hi
      rcases pred ok hi with h | ⟨j, hj, he, hr, h⟩
      · rw [h (C n d lim o)]
        unfold C
        rw [h]
        omega
      · rw [h (C n d lim o), ih j hj (by omega), he]
        unfold C
        rw [h fun j => min (o j) (lim j)]
        omega
  exact fun i hi => key (d.rk i + 1) i hi (by omega)
theorem tot_C (ok : d.Ok n) (ho : ∀ i, i < n → 0 ≤ o i) (hl : ∀ i, i < n → 0 ≤ lim i) (p : Nat) : tot n d (C n d lim o) p = min (d.A p) (tot n d (fun j => min (o j) (lim j)) p) := by
  rcases last ok p with h | ⟨i, hi, he, h⟩
  · rw [h, h]
    have := ok.A p
    omega
  · rw [h, h, S_C ok ho hl i hi, he]
theorem C_le (ok : d.Ok n) (ho : ∀ i, i < n → 0 ≤ o i) (hl : ∀ i, i < n → 0 ≤ lim i) (hi : i < n) : 0 ≤ C n d lim o i ∧ C n d lim o i ≤ min (o i) (lim i) := by
  have h1 := ho i hi
  have h2 := hl i hi
  have h3 := S_self (n := n) (d := d) (x := fun j => min (o j) (lim j)) (fun j hj => by have := ho j hj; have := hl j hj; omega) hi
  have hA := ok.A (d.e i)
  unfold C
  omega
/-- what is within is chosen again -/
theorem C_self (ok : d.Ok n) (hx : ∀ i, i < n → 0 ≤ x i ∧ x i ≤ lim i) (ht : ∀ p, tot n d x p ≤ d.A p) (hi : i < n) : C n d lim x i = x i := by
  have e : ∀ j, j < n → min (x j) (lim j) = x j := fun j hj => by have := hx j hj; omega
  unfold C
  rw [S_congr e, e i hi]
  have h1 := S_le_tot (n := n) (d := d) (x := x) (fun j hj => (hx j hj).1) i
  have h2 := ht (d.e i)
  have := (hx i hi).1
  omega
end
/-! ### stable flows -/
structure Feas (M : Mk) (x : Nat → Int) : Prop where
  r : ∀ i, i < M.n → 0 ≤ x i ∧ x i ≤ M.lim i
  g : ∀ p, tot M.n M.G x p ≤ M.G.A p
  t : ∀ p, tot M.n M.T x p ≤ M.T.A p
structure St (M : Mk) (x : Nat → Int) : Prop extends Feas M x where
  b : ∀ i, i < M.n → x i = M.lim i ∨ M.G.A (M.G.e i) ≤ S M.n M.G x i ∨ M.T.A (M.T.e i) ≤ S M.n M.T x i
theorem Feas.flip {M : Mk} {x : Nat → Int} (h : Feas M x) : Feas M.flip x := ⟨h.r, h.t, h.g⟩
theorem St.flip {M : Mk} {x : Nat → Int} (h : St M x) : St M.flip x := ⟨h.toFeas.flip, fun i hi => (h.b i hi).imp_right Or.symm⟩
/-- all places together -/
theorem sm_tot {n : Nat} {d : Sd} (ok : d.Ok n) (x : Nat → Int) : sm d.K (fun p => tot n d x p) = sm n x := by
  unfold tot
  rw [sm_swap]
  exact sm_congr fun j hj => by
    have : (fun p => if d.e j = p then x j else 0) = fun p => if p = d.e j then x j else 0 := by
      funext p
      by_cases c : d.e j = p
      · rw [if_pos c, if_pos c.symm]
      · rw [if_neg c, if_neg (fun z => c z.symm)]
    rw [this, sm_one (ok.e j hj)]
section
variable {M : Mk} {x y : Nat → Int}
/-- the greater of both -/
def mx (x y : Nat → Int) : Nat → Int := fun i => max (x i) (y i)
theorem mx_min (hx : ∀ i, i < M.n → 0 ≤ x i ∧ x i ≤ M.lim i) (hy : ∀ i, i < M.n → 0 ≤ y i ∧ y i ≤ M.lim i) : ∀ i, i < M.n → min (mx x y i) (M.lim i) = mx x y i := fun i hi => by
  have := hx i hi
  have := hy i hi
  unfold mx
  omega
theorem C_mx {d : Sd} (hx : ∀ i, i < M.n → 0 ≤ x i ∧ x i ≤ M.lim i) (hy : ∀ i, i < M.n → 0 ≤ y i ∧ y i ≤ M.lim i) {i : Nat} (hi : i < M.n) : C M.n d M.lim (mx x y) i = min (d.A (d.e i)) (S M.n d (mx x y) i) - min (d.A (d.e i)) (S M.n d (mx x y) i - mx x y i) := by
  unfold C
  rw [S_congr (mx_min hx hy), mx_min hx hy i hi]
/-- where givers choose more than the lesser of both, takers do not -/
theorem not_both (ok : M.Ok) (hx : St M x) (hy : St M y) {i : Nat} (hi : i < M.n) (hlt : x i < y i) (hz : x i < C M.n M.G M.lim (mx x y) i) : C M.n M.T M.lim (mx x y) i ≤ x i := by
  have c1 := C_mx (d := M.G) hx.r hy.r hi
  have c2 := C_mx (d := M.T) hx.r hy.r hi
  have hm : ∀ j, j < M.n → x j ≤ mx x y j := fun j _ => by unfold mx; omega
  have g1 := S_le (n := M.n) (d := M.G) hm i
  have t1 := S_le (n := M.n) (d := M.T) hm i
  have rx := hx.r i hi
  have ry := hy.r i hi
  have hmi : mx x y i = y i := by unfold mx; omega
  -- what lies ahead of it
  have g2 : S M.n M.G x i - x i ≤ S M.n M.G (mx x y) i - mx x y i := by
    have e : ∀ z : Nat → Int, S M.n M.G z i - z i = S M.n M.G (fun j => if j = i then 0 else z j) i := fun z => by
      have : S M.n M.G z i = S M.n M.G (fun j => (if j = i then 0 else z j) + (if j = i then z i else 0)) i := S_congr (fun j _ => by
        by_cases c : j = i
        · subst c; simp
        · simp [c]) i
      rw [this, S_add]
      have : S M.n M.G (fun j => if j = i then z i else 0) i = z i := by
        unfold S
        rw [sm_congr (g := fun j => if j = i then z i else 0), sm_one hi]
        intro j _
        by_cases c : j = i
        · subst c; simp
        · simp [c]
      omega
    rw [e x, e (mx x y)]
    exact S_le (fun j hj => by
      have := hm j hj
      split <;> omega) i
  have t2 : S M.n M.T x i - x i ≤ S M.n M.T (mx x y) i - mx x y i := by
    have e : ∀ z : Nat → Int, S M.n M.T z i - z i = S M.n M.T (fun j => if j = i then 0 else z j) i := fun z => by
      have : S M.n M.T z i = S M.n M.T (fun j => (if j = i then 0 else z j) + (if j = i then z i else 0)) i := S_congr (fun j _ => by
        by_cases c : j = i
        · subst c; simp
        · simp [c]) i
      rw [this, S_add]
      have : S M.n M.T (fun j => if j = i then z i else 0) i = z i := by
        unfold S
        rw [sm_congr (g := fun j => if j = i then z i else 0), sm_one hi]
        intro j _
        by_cases c : j = i
        · subst c; simp
        · simp [c]
      omega
    rw [e x, e (mx x y)]
    exact S_le (fun j hj => by
      have := hm j hj
      split <;> omega) i
  have hb := hx.b i hi
  have a1 := S_le_tot (n := M.n) (d := M.G) (fun j hj => (hx.r j hj).1) i
  have a2 := hx.g (M.G.e i)
  have a3 := S_le_tot (n := M.n) (d := M.T) (fun j hj => (hx.r j hj).1) i
  have a4 := hx.t (M.T.e i)
  omega
theorem mx_comm (x y : Nat → Int) : mx x y = mx y x := by funext i; unfold mx; omega
theorem sum_le (ok : M.Ok) (hx : St M x) (hy : St M y) {i : Nat} (hi : i < M.n) : C M.n M.G M.lim (mx x y) i + C M.n M.T M.lim (mx x y) i ≤ x i + y i := by
  have h0 : ∀ j, j < M.n → 0 ≤ mx x y j := fun j hj => by have := hx.r j hj; unfold mx; omega
  have z1 := C_le ok.G h0 ok.lim hi
  have v1 := C_le ok.T h0 ok.lim hi
  have hm : mx x y i = max (x i) (y i) := rfl
  rcases Int.lt_trichotomy (x i) (y i) with h | h | h
  · by_cases c : x i < C M.n M.G M.lim (mx x y) i
    · have := not_both ok hx hy hi h c
      omega
    · omega
  · omega
  · by_cases c : y i < C M.n M.G M.lim (mx x y) i
    · have := not_both ok hy hx hi h (by rw [mx_comm y x]; exact c)
      rw [mx_comm y x] at this
      omega
    · omega
theorem tot_mx_ge (hx : ∀ i, i < M.n → 0 ≤ x i ∧ x i ≤ M.lim i) (d : Sd) (hd : d.Ok M.n) (hl : ∀ i, i < M.n → 0 ≤ M.lim i) (ht : ∀ p, tot M.n d x p ≤ d.A p) (hy : ∀ i, i < M.n → 0 ≤ y i ∧ y i ≤ M.lim i) (p : Nat) : tot M.n d x p ≤ tot M.n d (C M.n d M.lim (mx x y)) p := by
  rw [tot_C hd (fun j hj => by have := hx j hj; unfold mx; omega) hl]
  have h1 := tot_le (n := M.n) (d := d) (x := x) (y := fun j => min (mx x y j) (M.lim j)) (fun j hj => by have := hx j hj; unfold mx; omega) p
  have h2 := ht p
  omega
/-- both together -/
theorem lattice (ok : M.Ok) (hx : St M x) (hy : St M y) :
    (∀ i, i < M.n → C M.n M.G M.lim (mx x y) i + C M.n M.T M.lim (mx x y) i = x i + y i) ∧ (∀ p, p < M.G.K → tot M.n M.G x p = tot M.n M.G y p ∧ tot M.n M.G (C M.n M.G M.lim (mx x y)) p = tot M.n M.G x p) ∧ (∀ p, p < M.T.K → tot M.n M.T x p = tot M.n M.T y p ∧ tot M.n M.T (C M.n M.T M.lim (mx x y)) p = tot M.n M.T x p) := by
  have gx := tot_mx_ge (y := y) hx.r M.G ok.G ok.lim hx.g hy.r
  have gy := tot_mx_ge (y := x) hy.r M.G ok.G ok.lim hy.g hx.r
  have tx := tot_mx_ge (y := y) hx.r M.T ok.T ok.lim hx.t hy.r
  have ty := tot_mx_ge (y := x) hy.r M.T ok.T ok.lim hy.t hx.r
  rw [mx_comm y x] at gy ty
  have hs := fun i hi => sum_le ok hx hy (i := i) hi
  have s1 := sm_le (n := M.n) hs
  rw [sm_add, sm_add] at s1
  have k1 := sm_tot ok.G (C M.n M.G M.lim (mx x y))
  have k2 := sm_tot ok.T (C M.n M.T M.lim (mx x y))
  have gX := sm_tot ok.G x
  have gY := sm_tot ok.G y
  have tX := sm_tot ok.T x
  have tY := sm_tot ok.T y
  have l1 := sm_le (n := M.G.K) (f := fun p => tot M.n M.G x p) (g := fun p => tot M.n M.G (C M.n M.G M.lim (mx x y)) p) fun p _ => gx p
  have l2 := sm_le (n := M.G.K) (f := fun p => tot M.n M.G y p) (g := fun p => tot M.n M.G (C M.n M.G M.lim (mx x y)) p) fun p _ => gy p
  have l3 := sm_le (n := M.T.K) (f := fun p => tot M.n M.T x p) (g := fun p => tot M.n M.T (C M.n M.T M.lim (mx x y)) p) fun p _ => tx p
  have l4 := sm_le (n := M.T.K) (f := fun p => tot M.n M.T y p) (g := fun p => tot M.n M.T (C M.n M.T M.lim (mx x y)) p) fun p _ => ty p
  refine ⟨sm_le_eq hs (by rw [sm_add, sm_add]; omega), fun p hp => ?_, fun p hp => ?_⟩
  · have e1 := sm_le_eq (f := fun p => tot M.n M.G x p) (g := fun p => tot M.n M.G (C M.n M.G M.lim (mx x y)) p) (fun p _ => gx p) (n := M.G.K) (by omega) p hp
    have e2 := sm_le_eq (f := fun p => tot M.n M.G y p) (g := fun p => tot M.n M.G (C M.n M.G M.lim (mx x y)) p) (fun p _ => gy p) (n := M.G.K) (by omega) p hp
    omega
  · have e1 := sm_le_eq (f := fun p => tot M.n M.T x p) (g := fun p => tot M.n M.T (C M.n M.T M.lim (mx x y)) p) (fun p _ => tx p) (n := M.T.K) (by omega) p hp
    have e2 := sm_le_eq (f := fun p => tot M.n M.T y p) (g := fun p => tot M.n M.T (C M.n M.T M.lim (mx x y)) p) (fun p _ => ty p) (n := M.T.K) (by omega) p hp
    omega
theorem tot_out {d : Sd} (hd : d.Ok M.n) {p : Nat} (hp : ¬ p < d.K) (x : Nat → Int) : tot M.n d x p = 0 := by
  unfold tot
  rw [sm_congr (g := fun _ => 0), sm_zero]
  intro j hj
  exact if_neg fun (z : d.e j = p) => hp (z ▸ hd.e j hj)
/-- what one side chooses of two is at rest -/
theorem St.join (ok : M.Ok) (hx : St M x) (hy : St M y) : St M (C M.n M.G M.lim (mx x y)) := by
  obtain ⟨h1, h2, h3⟩ := lattice ok hx hy
  have h0 : ∀ j, j < M.n → 0 ≤ mx x y j := fun j hj => by have := hx.r j hj; unfold mx; omega
  have hz := fun i hi => C_le (i := i) ok.G h0 ok.lim hi
  refine ⟨⟨fun i hi => ?_, fun p => ?_, fun p => ?_⟩, fun i hi => ?_⟩
  · have := hz i hi; omega
  · rw [tot_C ok.G h0 ok.lim]; omega
  · by_cases hp : p < M.T.K
    · have e : tot M.n M.T (fun i => C M.n M.G M.lim (mx x y) i + C M.n M.T M.lim (mx x y) i) p = tot M.n M.T (fun i => x i + y i) p := tot_congr h1 p
      rw [tot_add, tot_add] at e
      have := h3 p hp
      have := hx.t p
      omega
    · rw [tot_out ok.T hp]; exact ok.T.A p
  · have hzi := hz i hi
    by_cases c1 : C M.n M.G M.lim (mx x y) i = M.lim i
    · exact .inl c1
    · by_cases c2 : M.G.A (M.G.e i) ≤ S M.n M.G (C M.n M.G M.lim (mx x y)) i
      · exact .inr (.inl c2)
      · right; right
        have sc := S_C ok.G h0 ok.lim i hi
        rw [S_congr (mx_min hx.r hy.r)] at sc
        have cm := C_mx (d := M.G) hx.r hy.r hi
        have gx := S_le (n := M.n) (d := M.G) (x := x) (y := mx x y) (fun j _ => by unfold mx; omega) i
        have gy := S_le (n := M.n) (d := M.G) (x := y) (y := mx x y) (fun j _ => by unfold mx; omega) i
        have hm : mx x y i = max (x i) (y i) := rfl
        have hn := h0 i hi
        have bx := hx.b i hi
        have bY := hy.b i hi
        have e : S M.n M.T (fun i => C M.n M.G M.lim (mx x y) i + C M.n M.T M.lim (mx x y) i) i = S M.n M.T (fun i => x i + y i) i := S_congr h1 i
        rw [S_add, S_add] at e
        have sv := S_C ok.T h0 ok.lim i hi
        have rx := hx.r i hi
        have ry := hy.r i hi
        omega
end
end Mt
namespace Mt
/-- what goes on the ways of a place ahead of a rank -/
def Sk (n : Nat) (d : Sd) (x : Nat → Int) (p k : Nat) : Int := sm n fun j => if d.e j = p ∧ d.rk j < k then x j else 0
section
variable {n : Nat} {d : Sd} {x : Nat → Int}
theorem Sk_zero {p : Nat} : Sk n d x p 0 = 0 := by
  unfold Sk
  rw [sm_congr (g := fun _ => 0), sm_zero]
  intro j _
  exact if_neg fun z => by omega
theorem Sk_succ (ok : d.Ok n) {i : Nat} (hi : i < n) : Sk n d x (d.e i) (d.rk i + 1) = Sk n d x (d.e i) (d.rk i) + x i := by
  have : Sk n d x (d.e i) (d.rk i + 1) = sm n fun j => (if d.e j = d.e i ∧ d.rk j < d.rk i then x j else 0) + (if j = i then x i else 0) := sm_congr fun j hj => by
    by_cases c : j = i
    · subst c
      rw [if_pos ⟨rfl, by omega⟩, if_neg (fun z => by omega), if_pos rfl]; omega
    · rw [if_neg c]
      by_cases c2 : d.e j = d.e i ∧ d.rk j < d.rk i
      · rw [if_pos c2, if_pos ⟨c2.1, by omega⟩]; omega
      · rw [if_neg c2, if_neg]
        · omega
        · intro z
          have : d.rk j ≠ d.rk i := fun q => c (ok.inj j i hj hi z.1 q)
          exact c2 ⟨z.1, by have := z.2; omega⟩
  rw [this, sm_add, sm_one hi]
  rfl
theorem S_Sk {i : Nat} : S n d x i = Sk n d x (d.e i) (d.rk i + 1) := sm_congr fun j _ => by
  by_cases c : d.e j = d.e i ∧ d.rk j ≤ d.rk i
  · rw [if_pos c, if_pos ⟨c.1, by omega⟩]
  · rw [if_neg c, if_neg fun z => c ⟨z.1, by omega⟩]
end
end Mt
namespace Mt
section
variable {n : Nat} {d : Sd} {x y : Nat → Int} {i j p : Nat}
theorem sm_lt_ex {f g : Nat → Int} (h : sm n f < sm n g) : ∃ j, j < n ∧ f j < g j := Classical.byContradiction fun c => by
  have := sm_le (f := g) (g := f) (n := n) fun i hi => Classical.byContradiction fun c2 => c ⟨i, hi, by omega⟩
  omega
/-- what lies strictly ahead -/
theorem S_split (ok : d.Ok n) (hi : i < n) : S n d x i = Sk n d x (d.e i) (d.rk i) + x i := by rw [S_Sk, Sk_succ ok hi]
theorem Sk_le (h : ∀ j, j < n → d.e j = p → d.rk j < i → x j ≤ y j) : Sk n d x p i ≤ Sk n d y p i := sm_le fun j hj => by
  by_cases c : d.e j = p ∧ d.rk j < i
  · rw [if_pos c, if_pos c]; exact h j hj c.1 c.2
  · rw [if_neg c, if_neg c]; omega
theorem S_le' (h : ∀ k, k < n → d.e k = d.e j → d.rk k ≤ d.rk j → x k ≤ y k) : S n d x j ≤ S n d y j := sm_le fun k hk => by
  by_cases c : d.e k = d.e j ∧ d.rk k ≤ d.rk j
  · rw [if_pos c, if_pos c]; exact h k hk c.1 c.2
  · rw [if_neg c, if_neg c]; omega
theorem S_inj (ok : d.Ok n) (h : ∀ i, i < n → S n d x i = S n d y i) : ∀ i, i < n → x i = y i := fun i hi => by
  rcases pred ok hi with e | ⟨j, hj, _, _, e⟩
  · rw [← e x, ← e y]; exact h i hi
  · have h1 := h i hi
    have h2 := h j hj
    rw [e x, e y] at h1
    omega
theorem C_congr {lim o o' : Nat → Int} (h : ∀ i, i < n → o i = o' i) {i : Nat} (hi : i < n) : C n d lim o i = C n d lim o' i := by
  unfold C
  have e := S_congr (n := n) (d := d) (x := fun j => min (o j) (lim j)) (y := fun j => min (o' j) (lim j)) (fun j hj => by rw [h j hj]) i
  rw [e, h i hi]
/-- what is chosen of much is chosen of less, if it is there -/
theorem C_between (ok : d.Ok n) {lim c o m : Nat → Int} (hl : ∀ i, i < n → 0 ≤ lim i) (hc : ∀ i, i < n → 0 ≤ c i) (ho : ∀ i, i < n → C n d lim c i = o i) (h1 : ∀ i, i < n → o i ≤ m i) (h2 : ∀ i, i < n → min (m i) (lim i) ≤ min (c i) (lim i)) : ∀ i, i < n → C n d lim m i = o i := by
  have hom : ∀ i, i < n → 0 ≤ o i ∧ o i ≤ min (c i) (lim i) := fun i hi => by have := C_le ok hc hl hi; rw [ho i hi] at this; exact this
  have hm : ∀ i, i < n → 0 ≤ m i := fun i hi => by have := hom i hi; have := h1 i hi; omega
  refine S_inj ok fun i hi => ?_
  rw [S_C ok hm hl i hi]
  have e1 := S_C ok hc hl i hi
  rw [S_congr ho] at e1
  have l1 := S_le (n := n) (d := d) (x := o) (y := fun j => min (m j) (lim j)) (fun j hj => by have := hom j hj; have := h1 j hj; omega) i
  have l2 := S_le (n := n) (d := d) (x := fun j => min (m j) (lim j)) (y := fun j => min (c j) (lim j)) h2 i
  omega
end
section
variable {M : Mk} {c y : Nat → Int}
/-- a cap lowered to what is taken still bounds all stable ones -/
theorem paper_sound (ok : M.Ok) (hc : ∀ i, i < M.n → 0 ≤ c i) (hy : St M y) (hyc : ∀ i, i < M.n → y i ≤ c i) {i : Nat} (hi : i < M.n) (hr : C M.n M.T M.lim (C M.n M.G M.lim c) i < C M.n M.G M.lim c i) : y i ≤ C M.n M.T M.lim (C M.n M.G M.lim c) i := by
  refine Classical.byContradiction fun hgt => ?_
  have ho := fun j hj => C_le (i := j) ok.G hc ok.lim hj
  have ho0 : ∀ j, j < M.n → 0 ≤ C M.n M.G M.lim c j := fun j hj => (ho j hj).1
  have em : ∀ j, j < M.n → min (C M.n M.G M.lim c j) (M.lim j) = C M.n M.G M.lim c j := fun j hj => by have := ho j hj; omega
  have hs := C_le (i := i) ok.T ho0 ok.lim hi
  have es : C M.n M.T M.lim (C M.n M.G M.lim c) i = min (M.T.A (M.T.e i)) (S M.n M.T (C M.n M.G M.lim c) i) - min (M.T.A (M.T.e i)) (S M.n M.T (C M.n M.G M.lim c) i - C M.n M.G M.lim c i) := by
    show min _ (S M.n M.T (fun j => min (C M.n M.G M.lim c j) (M.lim j)) i) - min _ (S M.n M.T (fun j => min (C M.n M.G M.lim c j) (M.lim j)) i - min (C M.n M.G M.lim c i) (M.lim i)) = _
    rw [S_congr em, em i hi]
  have y1 := S_le_tot (n := M.n) (d := M.T) (fun j hj => (hy.r j hj).1) i
  have y2 := hy.t (M.T.e i)
  have sp1 := S_split (x := y) ok.T hi
  have sp2 := S_split (x := C M.n M.G M.lim c) ok.T hi
  have hlt : Sk M.n M.T y (M.T.e i) (M.T.rk i) < Sk M.n M.T (C M.n M.G M.lim c) (M.T.e i) (M.T.rk i) := by omega
  obtain ⟨j, hj, hjlt⟩ := sm_lt_ex hlt
  by_cases cj : M.T.e j = M.T.e i ∧ M.T.rk j < M.T.rk i
  · rw [if_pos cj, if_pos cj] at hjlt
    have hjr := ho j hj
    have hyj := hy.r j hj
    have l1 := S_lt (x := y) ok.T (fun k hk => (hy.r k hk).1) hi hj cj.1 cj.2
    have hb := hy.b j hj
    rw [cj.1] at hb
    have g1 : S M.n M.G y j - y j ≤ S M.n M.G (fun k => min (c k) (M.lim k)) j - min (c j) (M.lim j) := by
      have q1 := S_split (x := y) ok.G hj
      have q2 := S_split (x := fun k => min (c k) (M.lim k)) ok.G hj
      have q3 := Sk_le (n := M.n) (d := M.G) (x := y) (y := fun k => min (c k) (M.lim k)) (p := M.G.e j) (i := M.G.rk j) (fun k hk _ _ => by have := hyc k hk; have := hy.r k hk; omega)
      omega
    have ec : C M.n M.G M.lim c j = min (M.G.A (M.G.e j)) (S M.n M.G (fun k => min (c k) (M.lim k)) j) - min (M.G.A (M.G.e j)) (S M.n M.G (fun k => min (c k) (M.lim k)) j - min (c j) (M.lim j)) := rfl
    omega
  · rw [if_neg cj, if_neg cj] at hjlt; omega
/-- caps that come of steps -/
structure Inv (M : Mk) (c : Nat → Int) : Prop where
  r : ∀ i, i < M.n → 0 ≤ c i ∧ c i ≤ M.lim i
  f : ∀ i, i < M.n → c i < M.lim i → M.T.A (M.T.e i) ≤ S M.n M.T (C M.n M.G M.lim c) i
theorem Inv.lim (ok : M.Ok) : Inv M M.lim := ⟨fun i hi => ⟨ok.lim i hi, Int.le_refl _⟩, fun i hi h => by omega⟩
theorem C_in {d : Sd} {c : Nat → Int} (hr : ∀ i, i < M.n → 0 ≤ c i ∧ c i ≤ M.lim i) {i : Nat} (hi : i < M.n) : C M.n d M.lim c i = min (d.A (d.e i)) (S M.n d c i) - min (d.A (d.e i)) (S M.n d c i - c i) := by
  have em : ∀ j, j < M.n → min (c j) (M.lim j) = c j := fun j hj => by have := hr j hj; omega
  unfold C
  rw [S_congr em, em i hi]
theorem Inv.step (ok : M.Ok) (h : Inv M c) {c' : Nat → Int} {i : Nat} (hi : i < M.n) (he : ∀ j, j < M.n → j ≠ i → c' j = c j) (h1 : C M.n M.T M.lim (C M.n M.G M.lim c) i ≤ c' i) (h2 : c' i < C M.n M.G M.lim c i) : Inv M c' := by
  have hc0 : ∀ j, j < M.n → 0 ≤ c j := fun j hj => (h.r j hj).1
  have ho := fun j hj => C_le (i := j) ok.G hc0 ok.lim hj
  have ho0 : ∀ j, j < M.n → 0 ≤ C M.n M.G M.lim c j := fun j hj => (ho j hj).1
  have hs := C_le (i := i) ok.T ho0 ok.lim hi
  have hr' : ∀ j, j < M.n → 0 ≤ c' j ∧ c' j ≤ M.lim j := fun j hj => by
    by_cases e : j = i
    · subst e; have := ho j hj; have := h.r j hj; omega
    · rw [he j hj e]; exact h.r j hj
  have hi' := h.r i hi
  have hoi := ho i hi
  -- sums of the new caps
  have hS : ∀ j, j < M.n → M.G.e j = M.G.e i → M.G.rk i ≤ M.G.rk j → S M.n M.G c' j = S M.n M.G c j - (c i - c' i) := fun j hj e1 e2 => by
    have : S M.n M.G c' j = sm M.n fun k => (if M.G.e k = M.G.e j ∧ M.G.rk k ≤ M.G.rk j then c k else 0) - (if k = i then c i - c' i else 0) := sm_congr fun k hk => by
      by_cases e : k = i
      · subst e; rw [if_pos ⟨e1.symm, e2⟩, if_pos ⟨e1.symm, e2⟩, if_pos rfl]; omega
      · rw [he k hk e, if_neg e]; omega
    rw [this, sm_sub, sm_one hi]
    rfl
  have hS2 : ∀ j, j < M.n → ¬ (M.G.e j = M.G.e i ∧ M.G.rk i ≤ M.G.rk j) → S M.n M.G c' j = S M.n M.G c j := fun j hj e => sm_congr fun k hk => by
    by_cases c1 : M.G.e k = M.G.e j ∧ M.G.rk k ≤ M.G.rk j
    · rw [if_pos c1, if_pos c1]
      refine he k hk fun z => ?_
      subst z
      exact e ⟨c1.1.symm, c1.2⟩
    · rw [if_neg c1, if_neg c1]
  have new : ∀ j, j < M.n → j ≠ i → C M.n M.G M.lim c j ≤ C M.n M.G M.lim c' j := fun j hj hne => by
    rw [C_in h.r hj, C_in hr' hj, he j hj hne]
    have := h.r j hj
    by_cases e : M.G.e j = M.G.e i ∧ M.G.rk i ≤ M.G.rk j
    · rw [hS j hj e.1 e.2]
      omega
    · rw [hS2 j hj e]
      omega
  have newi : C M.n M.G M.lim c' i = c' i := by
    have q := C_in (d := M.G) h.r hi
    rw [C_in hr' hi, hS i hi rfl (Nat.le_refl _)]
    omega
  have es := C_in (M := M) (d := M.T) (c := C M.n M.G M.lim c) (fun j hj => by have := ho j hj; omega) hi
  have full : M.T.A (M.T.e i) ≤ S M.n M.T (C M.n M.G M.lim c') i := by
    have q1 := S_split (x := C M.n M.G M.lim c) ok.T hi
    have q2 := S_split (x := C M.n M.G M.lim c') ok.T hi
    have q3 := Sk_le (n := M.n) (d := M.T) (x := C M.n M.G M.lim c) (y := C M.n M.G M.lim c') (p := M.T.e i) (i := M.T.rk i) (fun k hk _ hrk => new k hk fun z => by subst z; omega)
    have hA := ok.T.A (M.T.e i)
    rw [newi] at q2
    omega
  refine ⟨hr', fun j hj hlt => ?_⟩
  by_cases e : j = i
  · subst e; exact full
  · rw [he j hj e] at hlt
    have old := h.f j hj hlt
    by_cases c1 : M.T.e i = M.T.e j ∧ M.T.rk i ≤ M.T.rk j
    · have hne : M.T.rk i ≠ M.T.rk j := fun z => e (ok.T.inj j i hj hi c1.1.symm z.symm)
      have h0 : ∀ k, k < M.n → 0 ≤ C M.n M.G M.lim c' k := fun k hk => (C_le (i := k) ok.G (fun l hl => (hr' l hl).1) ok.lim hk).1
      have := S_lt (x := C M.n M.G M.lim c') ok.T h0 hj hi c1.1 (by omega)
      have := h0 j hj
      rw [← c1.1]
      omega
    · refine Int.le_trans old (S_le' fun k hk ek rk => new k hk fun z => ?_)
      subst z
      exact c1 ⟨ek, rk⟩
theorem Inv.stable (ok : M.Ok) (h : Inv M c) (hn : ∀ i, i < M.n → C M.n M.G M.lim c i ≤ C M.n M.T M.lim (C M.n M.G M.lim c) i) : St M (C M.n M.G M.lim c) := by
  have hc0 : ∀ j, j < M.n → 0 ≤ c j := fun j hj => (h.r j hj).1
  have ho := fun j hj => C_le (i := j) ok.G hc0 ok.lim hj
  have ho0 : ∀ j, j < M.n → 0 ≤ C M.n M.G M.lim c j := fun j hj => (ho j hj).1
  have e : ∀ i, i < M.n → C M.n M.T M.lim (C M.n M.G M.lim c) i = C M.n M.G M.lim c i := fun i hi => by
    have := C_le (i := i) ok.T ho0 ok.lim hi
    have := hn i hi
    omega
  refine ⟨⟨fun i hi => by have := ho i hi; omega, fun p => ?_, fun p => ?_⟩, fun i hi => ?_⟩
  · rw [tot_C ok.G hc0 ok.lim]; omega
  · rw [← tot_congr e, tot_C ok.T ho0 ok.lim]; omega
  · have q := S_C ok.G hc0 ok.lim i hi
    have em : ∀ j, j < M.n → min (c j) (M.lim j) = c j := fun j hj => by have := h.r j hj; omega
    rw [S_congr em] at q
    have q2 := C_in (d := M.G) h.r hi
    have hr := h.r i hi
    by_cases c1 : M.G.A (M.G.e i) ≤ S M.n M.G c i
    · right; left; omega
    · by_cases c2 : c i < M.lim i
      · right; right; exact h.f i hi c2
      · left; omega
/-- the best one of those within caps -/
theorem best_of (ok : M.Ok) (h : Inv M c) (hn : ∀ i, i < M.n → C M.n M.G M.lim c i ≤ C M.n M.T M.lim (C M.n M.G M.lim c) i) (hy : St M y) (hyc : ∀ i, i < M.n → y i ≤ c i) : ∀ i, i < M.n → C M.n M.G M.lim (mx (C M.n M.G M.lim c) y) i = C M.n M.G M.lim c i := by
  have hc0 : ∀ j, j < M.n → 0 ≤ c j := fun j hj => (h.r j hj).1
  have ho := fun j hj => C_le (i := j) ok.G hc0 ok.lim hj
  refine C_between ok.G ok.lim hc0 (fun i _ => rfl) (fun i _ => by unfold mx; omega) (fun i hi => ?_)
  have := ho i hi
  have := hyc i hi
  have := hy.r i hi
  unfold mx
  omega
theorem unique_of (ok : M.Ok) {x y b : Nat → Int} (hb : St M b) (hy : St M y) (h1 : ∀ i, i < M.n → C M.n M.G M.lim (mx b y) i = b i) (h2 : ∀ i, i < M.n → C M.n M.T M.lim (mx b y) i = b i) : ∀ i, i < M.n → y i = b i := fun i hi => by
  have := (lattice ok hb hy).1 i hi
  rw [h1 i hi, h2 i hi] at this
  omega
end
end Mt

namespace SF
open SF.Em (em)
open SF.Up (up)
section
variable {α β γ σ ρ X Y Z : Type}
theorem bind_asc (t : R X) (f : X → R Y) (g : Y → R Z) : ((t >>= f) >>= g) = (t >>= fun x => f x >>= g) := by cases t <;> rfl
theorem bind_okr (t : R X) : (t >>= fun x => R.ok x) = t := by cases t <;> rfl
theorem bind_ite (c : Prop) [Decidable c] (a b : R X) (g : X → R Y) : ((if c then a else b) >>= g) = (if c then a >>= g else b >>= g) := by split <;> rfl
theorem if_true_eq (a b : X) : (if true = true then a else b) = a := rfl
theorem if_false_eq (a b : X) : (if false = true then a else b) = b := rfl
theorem ite_true_b (a b : X) : (if True then a else b) = a := if_pos trivial
theorem ite_false_b (a b : X) : (if False then a else b) = b := if_neg id
theorem mapN_ok {l : List α} {e : α → R β} {g : α → β} (h : ∀ x ∈ l, e x = .ok (g x)) : mapN l e = .ok (l.map g) := by
  induction l with
  | nil => rfl
  | cons x l ih =>
    unfold mapN
    rw [h x List.mem_cons_self]
    simp only []
    rw [ih fun y hy => h y (List.mem_cons_of_mem _ hy)]
    rfl
theorem lcN_ok {l : List α} {c : α → R Bool} {e : α → R β} {p : α → Bool} {g : α → β} (hc : ∀ x ∈ l, c x = .ok (p x)) (he : ∀ x ∈ l, p x = true → e x = .ok (g x)) : lcN l c e = .ok ((l.filter p).map g) := by
  induction l with
  | nil => rfl
  | cons x l ih =>
    have ih := ih (fun y hy => hc y (List.mem_cons_of_mem _ hy)) (fun y hy => he y (List.mem_cons_of_mem _ hy))
    unfold lcN
    rw [hc x List.mem_cons_self]
    cases hp : p x with
    | true =>
      rw [List.filter_cons_of_pos hp]
      simp only []
      rw [he x List.mem_cons_self hp]
      simp only []
      rw [ih]
      rfl
    | false =>
      rw [List.filter_cons_of_neg (by simp [hp])]
      exact ih
theorem forN_inv {f : σ → α → R σ} (I : List α → σ → Prop) : ∀ (l done : List α) (st : σ), I done st → (∀ d x r st, done ++ l = d ++ x :: r → I d st → ∃ st', f st x = .ok st' ∧ I (d ++ [x]) st') → ∃ st', forN l st f = .ok st' ∧ I (done ++ l) st'
  | [], done, st, h0, _ => ⟨st, rfl, by rw [List.append_nil]; exact h0⟩
  | x :: l, done, st, h0, h => by
    obtain ⟨s1, h1, h2⟩ := h done x l st rfl h0
    obtain ⟨s2, h3, h4⟩ := forN_inv I l (done ++ [x]) s1 h2 fun d y r st he hI => h d y r st (by rw [← he, List.append_assoc]; rfl) hI
    refine ⟨s2, ?_, by rw [List.append_assoc] at h4; exact h4⟩
    unfold forN
    rw [h1]
    exact h3
theorem forN_run {f : σ → α → R σ} {l : List α} {st : σ} (I : List α → σ → Prop) (h0 : I [] st) (h : ∀ d x r st, l = d ++ x :: r → I d st → ∃ st', f st x = .ok st' ∧ I (d ++ [x]) st') : ∃ st', forN l st f = .ok st' ∧ I l st' := forN_inv I l [] st h0 h
theorem forN_fold {f : σ → α → R σ} {g : σ → α → σ} {l : List α} (h : ∀ st, ∀ x ∈ l, f st x = .ok (g st x)) : ∀ st, forN l st f = .ok (l.foldl g st) := by
  induction l with
  | nil => intro st; rfl
  | cons x l ih =>
    intro st
    unfold forN
    rw [h st x List.mem_cons_self, ok_bind, ih fun st y hy => h st y (List.mem_cons_of_mem _ hy)]
    rfl
/-- a loop over the first numbers -/
theorem forN_nat {f : σ → Int → R σ} {n : Nat} {st : σ} (I : Nat → σ → Prop) (h0 : I 0 st) (h : ∀ k st, k < n → I k st → ∃ st', f st (k : Int) = .ok st' ∧ I (k + 1) st') : ∃ st', forN ((List.range n).map fun k : Nat => (k : Int)) st f = .ok st' ∧ I n st' := by
  have key : ∀ m, m ≤ n → ∀ st, I (n - m) st → ∃ st', forN ((List.range' (n - m) m).map fun k : Nat => (k : Int)) st f = .ok st' ∧ I n st' := fun m => by
    induction m with
    | zero => intro _ st hI; exact ⟨st, rfl, hI⟩
    | succ m ih =>
      intro hm st hI
      obtain ⟨s1, h1, h2⟩ := h (n - (m + 1)) st (by omega) hI
      rw [List.range'_succ, List.map_cons]
      unfold forN
      rw [h1, ok_bind, show n - (m + 1) + 1 = n - m by omega]
      exact ih (by omega) s1 (by rw [show n - m = n - (m + 1) + 1 by omega]; exact h2)
  have := key n (Nat.le_refl _) st (by rw [Nat.sub_self]; exact h0)
  rw [Nat.sub_self, ← List.range_eq_range'] at this
  exact this
/-- a loop in which one alone counts -/
theorem forN_one {f : σ → α → R σ} {l : List α} {i : α} (hi : i ∈ l) (nd : l.Nodup) (h : ∀ st, ∀ x ∈ l, x ≠ i → f st x = .ok st) (st : σ) : forN l st f = f st i := by
  have none : ∀ (l : List α), (∀ st, ∀ x ∈ l, f st x = .ok st) → ∀ st, forN l st f = .ok st := fun l => by
    induction l with
    | nil => intro _ st; rfl
    | cons x l ih =>
      intro h st
      unfold forN
      rw [h st x List.mem_cons_self, ok_bind]
      exact ih (fun st y hy => h st y (List.mem_cons_of_mem _ hy)) st
  induction l generalizing st with
  | nil => cases hi
  | cons x l ih =>
    obtain ⟨n1, n2⟩ := List.nodup_cons.mp nd
    unfold forN
    by_cases e : x = i
    · subst e
      have : ∀ st', forN l st' f = .ok st' := none l fun st y hy => h st y (List.mem_cons_of_mem _ hy) fun q => n1 (q ▸ hy)
      cases f st x with
      | ok a => exact this a
      | ex c => rfl
      | bad => rfl
    · rw [h st x List.mem_cons_self e, ok_bind]
      exact ih ((List.mem_cons.mp hi).resolve_left fun q => e q.symm) n2 (fun st y hy => h st y (List.mem_cons_of_mem _ hy)) st
/-- a loop that never answers -/
theorem forX_run {f : σ → α → R (Nx σ ρ)} (I : List α → σ → Prop) : ∀ {l done : List α} {st : σ}, I done st → (∀ d x r st, done ++ l = d ++ x :: r → I d st → ∃ st', f st x = .ok (.nx st') ∧ I (d ++ [x]) st') → ∃ st', forX l st f = .ok (.nx st') ∧ I (done ++ l) st'
  | [], done, st, h0, _ => ⟨st, rfl, by rw [List.append_nil]; exact h0⟩
  | x :: l, done, st, h0, h => by
    obtain ⟨s1, h1, h2⟩ := h done x l st rfl h0
    obtain ⟨s2, h3, h4⟩ := forX_run I (l := l) (done := done ++ [x]) (st := s1) h2 fun d y r st he hI => h d y r st (by rw [← he, List.append_assoc]; rfl) hI
    refine ⟨s2, ?_, by rw [List.append_assoc] at h4; exact h4⟩
    unfold forX
    rw [h1]
    exact h3
theorem forX_go {f : σ → α → R (Nx σ ρ)} {l : List α} {st : σ} (I : List α → σ → Prop) (h0 : I [] st) (h : ∀ d x r st, l = d ++ x :: r → I d st → ∃ st', f st x = .ok (.nx st') ∧ I (d ++ [x]) st') : ∃ st', forX l st f = .ok (.nx st') ∧ I l st' := forX_run I (done := []) h0 h
theorem forX_unit {f : Unit → α → R (Nx Unit ρ)} {l : List α} (h : ∀ x ∈ l, f () x = .ok (.nx ())) : forX l () f = .ok (.nx ()) := by
  induction l with
  | nil => rfl
  | cons x l ih =>
    unfold forX
    rw [h x List.mem_cons_self]
    exact ih fun y hy => h y (List.mem_cons_of_mem _ hy)
def foundX {α ρ : Type} (o : Option α) (r : α → ρ) : Nx Unit ρ := match o with
  | some x => .ret (r x)
  | none => .nx ()
theorem forX_find {f : Unit → α → R (Nx Unit ρ)} {l : List α} {P : α → Bool} {r : α → ρ} (h : ∀ x ∈ l, f () x = .ok (if P x = true then .ret (r x) else .nx ())) : forX l () f = .ok (foundX (l.find? P) r) := by
  induction l with
  | nil => rfl
  | cons x l ih =>
    unfold forX
    rw [h x List.mem_cons_self]
    cases hp : P x with
    | true => rw [List.find?_cons_of_pos hp]; rfl
    | false => rw [List.find?_cons_of_neg (by simp [hp]), ← ih fun y hy => h y (List.mem_cons_of_mem _ hy)]; rfl
theorem range_ok {n : Nat} (h : n ≤ 1000000) : rangeN 0 (n : Int) = .ok ((List.range n).map fun k : Nat => (k : Int)) := by
  unfold rangeN
  rw [gd_pos (by unfold small62; simp; omega)]
  unfold rangeI
  congr 1
  rw [show ((n : Int) - 0).toNat = n by omega]
  exact List.map_congr_left fun k _ => by omega
theorem range_ok' {i : Int} {n : Nat} (hi : i = n) (h : n ≤ 1000000) : rangeN 0 i = .ok ((List.range n).map fun k : Nat => (k : Int)) := by rw [hi, range_ok h]
/-- rows of numbers -/
def tab (n : Nat) (f : Nat → Int) : List Int := (List.range n).map f
def val (l : List Int) (i : Nat) : Int := l.getD i 0
@[simp] theorem tab_length (n : Nat) (f : Nat → Int) : (tab n f).length = n := by unfold tab; simp
theorem tab_get {n : Nat} {f : Nat → Int} {i : Nat} (h : i < n) : (tab n f)[i]? = some (f i) := by unfold tab; simp [h]
@[simp] theorem val_tab {n : Nat} {f : Nat → Int} {i : Nat} (h : i < n) : val (tab n f) i = f i := by unfold val; rw [List.getD_eq_getElem?_getD, tab_get h]; rfl
theorem val_get {l : List Int} {i : Nat} (h : i < l.length) : l[i]? = some (val l i) := by unfold val; rw [List.getD_eq_getElem?_getD, List.getElem?_eq_getElem h]; rfl
theorem tab_val {l : List Int} {n : Nat} (h : l.length = n) : tab n (val l) = l := by
  apply List.ext_getElem?
  intro i
  by_cases hi : i < n
  · rw [tab_get hi, val_get (by omega)]
  · rw [List.getElem?_eq_none (by simp; omega), List.getElem?_eq_none (by omega)]
theorem tab_congr {n : Nat} {f g : Nat → Int} (h : ∀ i, i < n → f i = g i) : tab n f = tab n g := List.map_congr_left fun i hi => h i (List.mem_range.mp hi)
theorem tab_inj {n : Nat} {f g : Nat → Int} (h : tab n f = tab n g) : ∀ i, i < n → f i = g i := fun i hi => by
  have := congrArg (fun l => val l i) h
  simpa [val_tab hi] using this
theorem tab_set {n : Nat} {f : Nat → Int} {i : Nat} {v : Int} : (tab n f).set i v = tab n fun j => if j = i then v else f j := by
  apply List.ext_getElem?
  intro j
  rw [List.getElem?_set]
  by_cases hj : j < n
  · rw [tab_get (f := fun j => if j = i then v else f j) hj, tab_get hj]
    by_cases e : i = j
    · subst e; simp [hj]
    · rw [if_neg e, if_neg (fun z : j = i => e z.symm)]
  · rw [List.getElem?_eq_none (by simp; omega), List.getElem?_eq_none (by simp; omega)]
    simp; omega
theorem at_ok [Em α] {l : List α} {i : Int} {n : Nat} {x : α} (hi : i = n) (h : l[n]? = some x) : atN l i = .ok x := by rw [hi]; exact atN_nat h
theorem at_val {l : List Int} {n : Nat} (h : n < l.length) : atN l (n : Int) = .ok (val l n) := atN_nat (val_get h)
theorem at_getD [Em α] {l : List α} {n : Nat} (h : n < l.length) (d : α) : atN l (n : Int) = .ok (l.getD n d) := atN_nat (by rw [List.getD_eq_getElem?_getD, List.getElem?_eq_getElem h]; rfl)
theorem put_ok [Em α] {l : List α} {n : Nat} (h : n < l.length) (x : α) : putN l (n : Int) x = .ok (l.set n x) := by
  unfold putN placeD
  rw [if_pos (by omega), if_pos (by omega)]
  simp
theorem rep_ok [Em α] {n : Nat} (h : n ≤ 1000) (x : α) : mulLN [x] (n : Int) = .ok (List.replicate n x) := by
  unfold mulLN
  rw [gd_pos (by simp; omega)]
  congr 1
  unfold repL
  rw [Int.toNat_natCast]
  clear h
  induction n with
  | zero => rfl
  | succ n ih => rw [List.replicate_succ, List.flatten_cons, ih]; rfl
theorem rep_tab (n : Nat) : List.replicate n (0 : Int) = tab n fun _ => 0 := by
  unfold tab
  apply List.ext_getElem?
  intro i
  by_cases c : i < n
  · simp [List.getElem?_replicate, c]
  · simp [List.getElem?_replicate, c]
theorem zip_map_add {f g : Nat → Int} {n : Nat} : ((tab n f).zip (tab n g)).map (fun p => p.1 + p.2) = tab n fun i => f i + g i := by
  unfold tab
  rw [List.zip_map', List.map_map]
  rfl
theorem min3_ok (a b c : Int) : min3N a b c = .ok (min (min a b) c) := by
  unfold min3N
  congr 1
  dsimp only
  split <;> split <;> omega
theorem app_ok [Em α] {l : List α} (h : l.length < 1000000) (x : α) : appN l x = .ok (l ++ [x]) := gd_pos h
theorem ext_ok [Em α] {l m : List α} (h : l.length + m.length ≤ 1000000) : extN l m = .ok (l ++ m) := gd_pos h
theorem addL_ok [Em α] {l m : List α} (h : l.length + m.length ≤ 1000000) : addLN l m = .ok (l ++ m) := gd_pos h
theorem addT_ok [Em α] {l m : Tp α} (h : l.l.length + m.l.length ≤ 1000000) : addTN l m = .ok ⟨l.l ++ m.l⟩ := gd_pos h
theorem ins_ok [Em α] {l : List α} {k : Nat} (h : l.length < 1000000) (hk : k ≤ l.length) (x : α) : insN l (k : Int) x = .ok (l.take k ++ [x] ++ l.drop k) := by
  unfold insN
  rw [gd_pos ⟨h, by simp; omega⟩, Int.toNat_natCast]
theorem mul_ok {i j : Int} (h : -18446744073709551616 < i ∧ i < 18446744073709551616) : mulN i j = .ok (i * j) := gd_pos (by unfold small64; simp; omega)
theorem mulR_ok {i j : Int} (h : -18446744073709551616 < j ∧ j < 18446744073709551616) : mulN i j = .ok (i * j) := gd_pos (by unfold small64; simp; omega)
theorem fdiv_ok {i j : Int} (h : 0 < j) (h2 : j < 1073741824) : fdivN i j = .ok (i / j) := gd_pos (by simp; omega)
theorem mod_ok {i j : Int} (h : 0 < j) : modN i j = .ok (i % j) := if_pos h
/-- a truth told -/
noncomputable def dP (p : Prop) : Bool := @decide p (Classical.propDecidable p)
theorem dP_iff {p : Prop} : dP p = true ↔ p := by unfold dP; exact @decide_eq_true_iff p (Classical.propDecidable p)
theorem dP_t {p : Prop} (h : p) : dP p = true := dP_iff.mpr h
theorem dP_f {p : Prop} (h : ¬ p) : dP p = false := by
  cases e : dP p with
  | false => rfl
  | true => exact absurd (dP_iff.mp e) h
theorem dP_dec {p : Prop} [Decidable p] : dP p = decide p := by
  by_cases c : p
  · rw [dP_t c, decide_eq_true c]
  · rw [dP_f c, decide_eq_false c]
theorem dP_congr {p q : Prop} (h : p ↔ q) : dP p = dP q := by rw [propext h]
theorem dP_not {p : Prop} : (!dP p) = dP (¬ p) := by
  by_cases c : p
  · rw [dP_t c, dP_f (fun h => h c)]; rfl
  · rw [dP_f c, dP_t c]; rfl
theorem forX_ex {f : Unit → α → R (Nx Unit ρ)} {l : List α} {P : α → Bool} {r : ρ} (h : ∀ x ∈ l, f () x = .ok (if P x = true then .ret r else .nx ())) : forX l () f = .ok (if dP (∃ x, x ∈ l ∧ P x = true) = true then .ret r else .nx ()) := by
  rw [forX_find (P := P) (r := fun _ => r) h]
  cases hf : l.find? P with
  | none =>
    rw [dP_f, if_neg Bool.false_ne_true]
    · rfl
    · rintro ⟨x, hx, hp⟩
      exact absurd hp (List.find?_eq_none.mp hf x hx)
  | some x =>
    rw [dP_t ⟨x, List.mem_of_find?_eq_some hf, List.find?_some hf⟩, if_pos rfl]
    rfl
theorem all_dP {l : List α} {g : α → Bool} : (l.map g).all id = dP (∀ x, x ∈ l → g x = true) := by
  rw [Bool.eq_iff_iff, dP_iff, List.all_map, List.all_eq_true]
  exact Iff.rfl
theorem forX_bind {τ : Type} {f : σ → α → R (Nx σ ρ)} {l : List α} {st : σ} {k : Nx σ ρ → R τ} {r : R τ} (I : List α → σ → Prop) (h0 : I [] st) (h : ∀ d x r st, l = d ++ x :: r → I d st → ∃ st', f st x = .ok (.nx st') ∧ I (d ++ [x]) st') (hk : ∀ st', I l st' → k (.nx st') = r) : (forX l st f >>= k) = r := by
  obtain ⟨st', h1, h2⟩ := forX_go I h0 h
  rw [h1, ok_bind]
  exact hk st' h2
theorem forN_bind {τ : Type} {f : σ → α → R σ} {l : List α} {st : σ} {k : σ → R τ} {r : R τ} (I : List α → σ → Prop) (h0 : I [] st) (h : ∀ d x r st, l = d ++ x :: r → I d st → ∃ st', f st x = .ok st' ∧ I (d ++ [x]) st') (hk : ∀ st', I l st' → k st' = r) : (forN l st f >>= k) = r := by
  obtain ⟨st', h1, h2⟩ := forN_run I h0 h
  rw [h1, ok_bind]
  exact hk st' h2
end
end SF

namespace Lw
open SF.Em (em)
open SF.Up (up)
open PySem SF Mt
/-! ### worlds -/
def sd (W : Wd) (s : Int) : List Pl := if s = 0 then W.a.l else W.b.l
def en (w : Wy) (s : Int) : Int := if s = 0 then w.a else w.b
def nw (W : Wd) : Nat := W.c.l.length
def wy (W : Wd) (i : Nat) : Wy := W.c.l.getD i ⟨0, 0, 0⟩
def pl (W : Wd) (s : Int) (p : Nat) : Pl := (sd W s).getD p (0, ⟨[]⟩)
abbrev Sid (s : Int) : Prop := s = 0 ∨ s = 1
structure WOk (W : Wd) : Prop where
  len : ∀ s, Sid s → 1 ≤ (sd W s).length ∧ (sd W s).length ≤ 4
  amt : ∀ s, Sid s → ∀ p ∈ sd W s, 0 ≤ p.1 ∧ p.1 ≤ 9
  wy : ∀ w ∈ W.c.l, (∀ s, Sid s → 0 ≤ en w s ∧ en w s < (sd W s).length) ∧ 1 ≤ w.c ∧ w.c ≤ 9
  srt : W.c.l.Pairwise fun a b => a.a < b.a ∨ a.a = b.a ∧ a.b < b.b
  lk : ∀ s, Sid s → ∀ (p : Nat) (q : Pl), (sd W s)[p]? = some q → q.2.l.Perm ((W.c.l.filter fun w => decide (en w s = p)).map fun w => en w (1 - s))
def sdm (W : Wd) (s : Int) : Sd := ⟨(sd W s).length, fun i => (en (wy W i) s).toNat, fun i => (pl W s (en (wy W i) s).toNat).2.l.idxOf (en (wy W i) (1 - s)), fun p => (pl W s p).1⟩
def wlim (W : Wd) (i : Nat) : Int := (wy W i).c
def mk (W : Wd) : Mk := ⟨nw W, wlim W, sdm W 0, sdm W 1⟩
theorem Sid.flip {s : Int} (h : Sid s) : Sid (1 - s) := by rcases h with rfl | rfl; exact .inr rfl; exact .inl rfl
theorem Sid.flip2 {s : Int} (h : Sid s) : 1 - (1 - s) = s := by omega
section
variable {W : Wd} (h : WOk W) {s : Int} (hs : Sid s)
theorem wy_mem {i : Nat} (hi : i < nw W) : wy W i ∈ W.c.l := by
  unfold wy
  rw [List.getD_eq_getElem?_getD, List.getElem?_eq_getElem hi]
  exact List.getElem_mem hi
theorem wy_get {i : Nat} (hi : i < nw W) : W.c.l[i]? = some (wy W i) := by
  unfold wy
  rw [List.getD_eq_getElem?_getD, List.getElem?_eq_getElem hi]
  rfl
theorem wy_of_mem {w : Wy} (hw : w ∈ W.c.l) : ∃ i, i < nw W ∧ wy W i = w := by
  obtain ⟨i, hi, rfl⟩ := List.mem_iff_getElem.mp hw
  refine ⟨i, hi, ?_⟩
  unfold wy
  rw [List.getD_eq_getElem?_getD, List.getElem?_eq_getElem hi]
  rfl
theorem pl_get {p : Nat} (hp : p < (sd W s).length) : (sd W s)[p]? = some (pl W s p) := by
  unfold pl
  rw [List.getD_eq_getElem?_getD, List.getElem?_eq_getElem hp]
  rfl
theorem pl_mem {p : Nat} (hp : p < (sd W s).length) : pl W s p ∈ sd W s := by
  unfold pl
  rw [List.getD_eq_getElem?_getD, List.getElem?_eq_getElem hp]
  exact List.getElem_mem hp
include h
theorem lim_ok {i : Nat} (hi : i < nw W) : 1 ≤ wlim W i ∧ wlim W i ≤ 9 := (h.wy _ (wy_mem hi)).2
theorem srt_get {i j : Nat} (hij : i < j) (hj : j < nw W) : (wy W i).a < (wy W j).a ∨ (wy W i).a = (wy W j).a ∧ (wy W i).b < (wy W j).b := by
  have := (List.pairwise_iff_getElem.mp h.srt) i j (by unfold nw at hj; omega) hj hij
  unfold wy
  rw [List.getD_eq_getElem?_getD, List.getD_eq_getElem?_getD, List.getElem?_eq_getElem hj, List.getElem?_eq_getElem (show i < W.c.l.length by unfold nw at hj; omega)]
  exact this
theorem pair_inj {i j : Nat} (hi : i < nw W) (hj : j < nw W) (ea : (wy W i).a = (wy W j).a) (eb : (wy W i).b = (wy W j).b) : i = j := by
  rcases Nat.lt_trichotomy i j with c | c | c
  · have := srt_get h c hj; omega
  · exact c
  · have := srt_get h c hi; omega
include hs
theorem end_ok {i : Nat} (hi : i < nw W) : ((sdm W s).e i : Int) = en (wy W i) s ∧ (sdm W s).e i < (sd W s).length := by
  have := (h.wy _ (wy_mem hi)).1 s hs
  unfold sdm
  dsimp only
  omega
theorem en_inj {i j : Nat} (hi : i < nw W) (hj : j < nw W) (ea : en (wy W i) s = en (wy W j) s) (eb : en (wy W i) (1 - s) = en (wy W j) (1 - s)) : i = j := by
  rcases hs with rfl | rfl
  · exact pair_inj h hi hj ea eb
  · exact pair_inj h hi hj eb ea
theorem likes_mem {p : Nat} (hp : p < (sd W s).length) {o : Int} : o ∈ (pl W s p).2.l ↔ ∃ i, i < nw W ∧ (sdm W s).e i = p ∧ en (wy W i) (1 - s) = o := by
  rw [(h.lk s hs p _ (pl_get hp)).mem_iff, List.mem_map]
  constructor
  · rintro ⟨w, hw, rfl⟩
    obtain ⟨h1, h2⟩ := List.mem_filter.mp hw
    obtain ⟨i, hi, rfl⟩ := wy_of_mem h1
    have := end_ok h hs hi
    have := of_decide_eq_true h2
    exact ⟨i, hi, by omega, rfl⟩
  · rintro ⟨i, hi, he, rfl⟩
    have := end_ok h hs hi
    exact ⟨wy W i, List.mem_filter.mpr ⟨wy_mem hi, decide_eq_true (by omega)⟩, rfl⟩
theorem likes_nodup {p : Nat} (hp : p < (sd W s).length) : (pl W s p).2.l.Nodup := by
  rw [(h.lk s hs p _ (pl_get hp)).nodup_iff]
  rw [List.nodup_iff_pairwise_ne, List.pairwise_map, List.pairwise_filter]
  refine h.srt.imp fun {a b} hab ha hb e => ?_
  have ha := of_decide_eq_true ha
  have hb := of_decide_eq_true hb
  rcases hs with rfl | rfl
  · have e : a.b = b.b := e
    have : a.a = b.a := ha.trans hb.symm
    omega
  · have e : a.a = b.a := e
    have : a.b = b.b := ha.trans hb.symm
    omega
theorem rk_lt {i : Nat} (hi : i < nw W) : (sdm W s).rk i < (pl W s ((sdm W s).e i)).2.l.length ∧ (pl W s ((sdm W s).e i)).2.l[(sdm W s).rk i]? = some (en (wy W i) (1 - s)) := by
  have he := end_ok h hs hi
  have hm := (likes_mem h hs he.2).mpr ⟨i, hi, rfl, rfl⟩
  have h1 := List.idxOf_lt_length_iff.mpr hm
  refine ⟨h1, ?_⟩
  show (pl W s ((sdm W s).e i)).2.l[(pl W s ((sdm W s).e i)).2.l.idxOf (en (wy W i) (1 - s))]? = _
  rw [List.getElem?_eq_getElem h1, List.getElem_idxOf]
theorem sdm_ok : (sdm W s).Ok (nw W) where
  e := fun i hi => (end_ok h hs hi).2
  A := fun p => by
    show 0 ≤ (pl W s p).1
    by_cases hp : p < (sd W s).length
    · exact (h.amt s hs _ (pl_mem hp)).1
    · unfold pl
      rw [List.getD_eq_getElem?_getD, List.getElem?_eq_none (by omega)]
      exact Int.le_refl _
  inj := fun i j hi hj he hr => by
    have h1 := (rk_lt h hs hi).2
    have h2 := (rk_lt h hs hj).2
    rw [he, hr, h2] at h1
    have hi' := end_ok h hs hi
    have hj' := end_ok h hs hj
    exact en_inj h hs hi hj (by omega) (Option.some.inj h1).symm
end
theorem mk_ok {W : Wd} (h : WOk W) : (mk W).Ok := ⟨sdm_ok h (.inl rfl), sdm_ok h (.inr rfl), fun i hi => by have := lim_ok h hi; show 0 ≤ wlim W i; omega⟩
/-- the number of the way between two -/
def ix (W : Wd) (s : Int) (p : Nat) (o : Int) : Nat := W.c.l.findIdx fun w => decide (en w s = p ∧ en w (1 - s) = o)
/-- a place's ways, the most liked one first -/
def liked (W : Wd) (s : Int) (p : Nat) : List Nat := (pl W s p).2.l.map (ix W s p)
section
variable {W : Wd} (h : WOk W) {s : Int} (hs : Sid s)
include h hs
theorem ix_eq {i : Nat} (hi : i < nw W) : ix W s ((sdm W s).e i) (en (wy W i) (1 - s)) = i := by
  have he := end_ok h hs hi
  unfold ix
  have ex : W.c.l.findIdx (fun w => decide (en w s = ((sdm W s).e i : Nat) ∧ en w (1 - s) = en (wy W i) (1 - s))) < W.c.l.length :=
    List.findIdx_lt_length_of_exists ⟨wy W i, wy_mem hi, decide_eq_true ⟨he.1.symm, rfl⟩⟩
  have hp := List.findIdx_getElem (w := ex)
  have hp := of_decide_eq_true hp
  generalize W.c.l.findIdx (fun w => decide (en w s = ((sdm W s).e i : Nat) ∧ en w (1 - s) = en (wy W i) (1 - s))) = j at *
  have hw : wy W j = W.c.l[j] := by
    unfold wy
    rw [List.getD_eq_getElem?_getD, List.getElem?_eq_getElem ex]
    rfl
  rw [← hw] at hp
  exact en_inj h hs ex hi (by omega) hp.2
theorem liked_get {p : Nat} (hp : p < (sd W s).length) (k i : Nat) : (liked W s p)[k]? = some i ↔ i < nw W ∧ (sdm W s).e i = p ∧ (sdm W s).rk i = k := by
  unfold liked
  rw [List.getElem?_map]
  constructor
  · intro e
    cases ho : (pl W s p).2.l[k]? with
    | none => rw [ho] at e; cases e
    | some o =>
      rw [ho] at e
      have hm : o ∈ (pl W s p).2.l := List.mem_of_getElem? ho
      obtain ⟨j, hj, he, rfl⟩ := (likes_mem h hs hp).mp hm
      have e : ix W s p (en (wy W j) (1 - s)) = i := Option.some.inj e
      rw [← he, ix_eq h hs hj] at e
      subst e
      refine ⟨hj, he, ?_⟩
      have h1 := rk_lt h hs hj
      rw [he] at h1
      have nd := likes_nodup h hs hp
      exact (List.getElem?_inj h1.1 nd).mp (h1.2.trans ho.symm)
  · rintro ⟨hi, he, hr⟩
    have h1 := rk_lt h hs hi
    rw [he, hr] at h1
    rw [h1.2, ← he]
    exact congrArg some (ix_eq h hs hi)
theorem liked_mem {p : Nat} (hp : p < (sd W s).length) {i : Nat} : i ∈ liked W s p ↔ i < nw W ∧ (sdm W s).e i = p := by
  rw [List.mem_iff_getElem?]
  constructor
  · rintro ⟨k, hk⟩
    have := (liked_get h hs hp k i).mp hk
    exact ⟨this.1, this.2.1⟩
  · rintro ⟨h1, h2⟩
    exact ⟨_, (liked_get h hs hp _ i).mpr ⟨h1, h2, rfl⟩⟩
theorem nw_le : nw W ≤ 16 := by
  have l0 := (h.len 0 (.inl rfl))
  have l1 := (h.len 1 (.inr rfl))
  have key : ∀ i, i < nw W → (i : Int) ≤ 4 * (wy W i).a + (wy W i).b := fun i => by
    induction i with
    | zero =>
      intro hi
      have a0 := (h.wy _ (wy_mem hi)).1 0 (.inl rfl)
      have a1 := (h.wy _ (wy_mem hi)).1 1 (.inr rfl)
      have e0 : en (wy W 0) 0 = (wy W 0).a := rfl
      have e1 : en (wy W 0) 1 = (wy W 0).b := rfl
      omega
    | succ i ih =>
      intro hi
      have ih := ih (by omega)
      have hlt := srt_get h (show i < i + 1 by omega) hi
      have a1 := (h.wy _ (wy_mem hi)).1 1 (.inr rfl)
      have a2 := (h.wy _ (wy_mem (show i < nw W by omega))).1 1 (.inr rfl)
      have e1 : en (wy W (i + 1)) 1 = (wy W (i + 1)).b := rfl
      have e2 : en (wy W i) 1 = (wy W i).b := rfl
      omega
  rcases Nat.eq_zero_or_pos (nw W) with c | c
  · omega
  · have hk := key (nw W - 1) (by omega)
    have a0 := (h.wy _ (wy_mem (show nw W - 1 < nw W by omega))).1 0 (.inl rfl)
    have a1 := (h.wy _ (wy_mem (show nw W - 1 < nw W by omega))).1 1 (.inr rfl)
    have e0 : en (wy W (nw W - 1)) 0 = (wy W (nw W - 1)).a := rfl
    have e1 : en (wy W (nw W - 1)) 1 = (wy W (nw W - 1)).b := rfl
    omega
end
/-! ### what the defs tell of worlds -/
section
variable {W : Wd} (h : WOk W) {s : Int} (hs : Sid s)
theorem side_ok (hs : Sid s) : ∃ t : Tp Pl, side3 W s = .ok t ∧ t.l = sd W s := by
  rcases hs with rfl | rfl
  · exact ⟨W.a, rfl, rfl⟩
  · exact ⟨W.b, rfl, rfl⟩
theorem en_ok (w : Wy) (hs : Sid s) : side3 w s = .ok (en w s) := by rcases hs with rfl | rfl <;> rfl
include hs
theorem place_ok {p : Nat} (hp : p < (sd W s).length) : (side3 W s >>= fun t => atN t.l (p : Int)) = .ok (pl W s p) := by
  obtain ⟨t, e1, e2⟩ := side_ok (W := W) hs
  rw [e1, ok_bind, e2]
  exact atN_nat (pl_get hp)
theorem len_ok : (side3 W s >>= fun t => R.ok (t.l.length : Int)) = .ok ((sd W s).length : Int) := by
  obtain ⟨t, e1, e2⟩ := side_ok (W := W) hs
  rw [e1, ok_bind, e2]
include h
theorem ways_liked_ok {p : Nat} (hp : p < (sd W s).length) : n_ways_liked W s p = .ok ((liked W s p).map fun i : Nat => (i : Int)) := by
  simp only [n_ways_liked, O2.f, OC.f, O1.f, SeqN.f, Ix.f, Sl.f, Un2.f, Un3.f, ok_bind, ex_bind, bad_bind, bind_asc, bind_okr, upR_refl, up_refl, upR_ok, upR_ex, up_D, up_some, up_none, up_nilL, up_nilT, oR_some, optB_some, nxE_nx, nxE_ret, em_D, id_eq, if_true_eq, if_false_eq, decide_eq_true_eq, Bool.not_true, Bool.not_false, ite_true_b, ite_false_b, Bool.true_and, Bool.and_true]
  rw [mapN_ok (g := fun w : Wy => (w.a, w.b)) fun w _ => rfl, ok_bind]
  have hpl := place_ok (W := W) hs hp
  obtain ⟨t, e1, e2⟩ := side_ok (W := W) hs
  rw [e1, ok_bind] at hpl ⊢
  rw [hpl, ok_bind]
  rw [mapN_ok (g := fun o : Int => (ix W s p o : Int))]
  · unfold liked
    rw [List.map_map]
    rfl
  · intro o ho
    obtain ⟨i, hi, he, rfl⟩ := (likes_mem h hs hp).mp ho
    have hx := ix_eq h hs hi
    rw [he] at hx
    have hb := end_ok h hs hi
    have key : (List.map (fun w : Wy => (w.a, w.b)) W.c.l).findIdx (fun y => decide (y = if s = 0 then ((p : Int), en (wy W i) (1 - s)) else (en (wy W i) (1 - s), (p : Int)))) = ix W s p (en (wy W i) (1 - s)) := by
      unfold ix
      rw [List.findIdx_map]
      congr 1
      funext w
      rcases hs with rfl | rfl
      · simp [en]
      · simp [en, and_comm]
    have mem : (if s = 0 then ((p : Int), en (wy W i) (1 - s)) else (en (wy W i) (1 - s), (p : Int))) ∈ List.map (fun w : Wy => (w.a, w.b)) W.c.l := by
      refine List.mem_map.mpr ⟨wy W i, wy_mem hi, ?_⟩
      rcases hs with rfl | rfl
      · rw [if_pos rfl]; exact Prod.ext (by rw [he] at hb; exact hb.1.symm) rfl
      · rw [if_neg (by decide)]; exact Prod.ext rfl (by rw [he] at hb; exact hb.1.symm)
    have e3 : (if s = 0 then R.ok ((p : Int), en (wy W i) (1 - s)) else R.ok (en (wy W i) (1 - s), (p : Int))) = R.ok (if s = 0 then ((p : Int), en (wy W i) (1 - s)) else (en (wy W i) (1 - s), (p : Int))) := by split <;> rfl
    simp only [e3, ok_bind]
    rw [if_pos mem, key]
end
end Lw

namespace SF
open SF.Em (em)
open SF.Up (up)
theorem forN_map {α β σ : Type} {g : β → α} {f : σ → α → R σ} : ∀ {l : List β} {st : σ}, forN (l.map g) st f = forN l st fun s x => f s (g x)
  | [], _ => rfl
  | x :: l, st => by
    rw [List.map_cons]
    unfold forN
    cases f st (g x) with
    | ok s => exact forN_map
    | ex c => rfl
    | bad => rfl
theorem forX_map {α β σ ρ : Type} {g : β → α} {f : σ → α → R (Nx σ ρ)} : ∀ {l : List β} {st : σ}, forX (l.map g) st f = forX l st fun s x => f s (g x)
  | [], _ => rfl
  | x :: l, st => by
    rw [List.map_cons]
    unfold forX
    cases f st (g x) with
    | ok s => cases s with
      | nx s => exact forX_map
      | ret r => rfl
    | ex c => rfl
    | bad => rfl
end SF
namespace Lw
open SF.Em (em)
open SF.Up (up)
open PySem SF Mt
/-- what a place chooses; what all of a side do -/
def Ch (W : Wd) (s : Int) (off : Nat → Int) : Nat → Int := C (nw W) (sdm W s) (wlim W) off
section
variable {W : Wd} (h : WOk W) {s : Int} (hs : Sid s)
include h hs
theorem chosen_step {off : Nat → Int} {i : Nat} (hi : i < nw W) (ho : ∀ j, j < nw W → 0 ≤ off j) :
    min (min ((sdm W s).A ((sdm W s).e i) - min ((sdm W s).A ((sdm W s).e i)) (Sk (nw W) (sdm W s) (fun j => min (off j) (wlim W j)) ((sdm W s).e i) ((sdm W s).rk i))) (off i)) (wlim W i) = Ch W s off i ∧
    (sdm W s).A ((sdm W s).e i) - min ((sdm W s).A ((sdm W s).e i)) (Sk (nw W) (sdm W s) (fun j => min (off j) (wlim W j)) ((sdm W s).e i) ((sdm W s).rk i)) - Ch W s off i = (sdm W s).A ((sdm W s).e i) - min ((sdm W s).A ((sdm W s).e i)) (Sk (nw W) (sdm W s) (fun j => min (off j) (wlim W j)) ((sdm W s).e i) ((sdm W s).rk i + 1)) := by
  have ok := sdm_ok h hs
  have h1 := ho i hi
  have h2 := lim_ok h hi
  unfold Ch C
  rw [S_Sk, Sk_succ ok hi]
  omega
theorem chosen_ok {p : Nat} (hp : p < (sd W s).length) {off : List Int} (hl : off.length = nw W) (ho : ∀ j, j < nw W → 0 ≤ val off j) :
    n_chosen W s p ⟨off⟩ = .ok ⟨tab (nw W) fun j => if (sdm W s).e j = p then Ch W s (val off) j else 0⟩ := by
  have n16 := nw_le h hs
  obtain ⟨t, e1, e2⟩ := side_ok (W := W) hs
  have e3 := at_getD (l := t.l) (n := p) (by rw [e2]; exact hp) (0, ⟨[]⟩)
  have e4 : t.l.getD p (0, ⟨[]⟩) = pl W s p := by rw [e2]; rfl
  rw [e4] at e3
  have e5 := rep_ok (n := nw W) (by omega) (0 : Int)
  rw [rep_tab] at e5
  simp only [n_chosen, O2.f, OC.f, O1.f, SeqN.f, Ix.f, Sl.f, Un2.f, Un3.f, ok_bind, ex_bind, bad_bind, bind_asc, bind_okr, upR_refl, up_refl, upR_ok, upR_ex, up_D, up_some, up_none, up_nilL, up_nilT, oR_some, optB_some, nxE_nx, nxE_ret, em_D, id_eq, if_true_eq, if_false_eq, decide_eq_true_eq, Bool.not_true, Bool.not_false, ite_true_b, ite_false_b, Bool.true_and, Bool.and_true, e1, e3]
  rw [show ((W.c.l.length : Nat) : Int) = (nw W : Int) from rfl, e5, ok_bind, ways_liked_ok h hs hp, ok_bind, forN_map]
  obtain ⟨st', h1, h2⟩ := forN_run (l := liked W s p) (st := (tab (nw W) fun _ => 0, (pl W s p).1)) (f := fun (st9 : List Int × Int) (x : Nat) =>
      atN off (x : Int) >>= fun q20 => atN W.c.l (x : Int) >>= fun q1 => min3N st9.2 q20 q1.c >>= fun q26 => putN st9.1 (x : Int) q26 >>= fun v_found => atN v_found (x : Int) >>= fun q25 => R.ok (v_found, st9.2 - q25))
    (fun d st => st = (tab (nw W) (fun j => if (sdm W s).e j = p ∧ (sdm W s).rk j < d.length then Ch W s (val off) j else 0), (sdm W s).A p - min ((sdm W s).A p) (Sk (nw W) (sdm W s) (fun j => min (val off j) (wlim W j)) p d.length))) (by
      have := (sdm_ok h hs).A p
      rw [List.length_nil, Sk_zero]
      refine Prod.ext (tab_congr fun j _ => (if_neg fun z => by omega).symm) ?_
      show (sdm W s).A p = _
      omega) (fun d i r st hd hI => by
      subst hI
      have hk : (liked W s p)[d.length]? = some i := by rw [hd, List.getElem?_append_right (Nat.le_refl _), Nat.sub_self]; rfl
      obtain ⟨hi, he, hr⟩ := (liked_get h hs hp _ _).mp hk
      have hst := chosen_step h hs hi (off := val off) ho
      rw [he, hr] at hst
      refine ⟨_, ?_, rfl⟩
      simp only []
      rw [at_val (by omega), ok_bind, atN_nat (wy_get hi), ok_bind, min3_ok, ok_bind, put_ok (by simp; exact hi), ok_bind, tab_set, at_val (by simp; exact hi), val_tab hi, ok_bind, if_pos rfl]
      have hw : (wy W i).c = wlim W i := rfl
      rw [hw, hst.1, hst.2, List.length_append]
      congr 1
      refine Prod.ext (tab_congr fun j hj => ?_) rfl
      by_cases c : j = i
      · subst c
        rw [if_pos rfl, if_pos ⟨he, by simp; omega⟩]
      · rw [if_neg c]
        by_cases c2 : (sdm W s).e j = p ∧ (sdm W s).rk j < d.length
        · rw [if_pos c2, if_pos ⟨c2.1, by simp; omega⟩]
        · rw [if_neg c2, if_neg]
          intro z
          have : (sdm W s).rk j ≠ (sdm W s).rk i := fun q => c ((sdm_ok h hs).inj j i hj hi (by rw [z.1, he]) q)
          have z2 := z.2
          simp at z2
          exact c2 ⟨z.1, by omega⟩)
  rw [h1, ok_bind, h2]
  congr 2
  refine tab_congr fun j hj => ?_
  by_cases c : (sdm W s).e j = p
  · rw [if_pos c]
    have := (rk_lt h hs hj).1
    rw [c] at this
    rw [if_pos ⟨c, by unfold liked; rw [List.length_map]; exact this⟩]
  · rw [if_neg c, if_neg fun z => c z.1]
theorem both_ends_ok {off : List Int} (hl : off.length = nw W) (ho : ∀ j, j < nw W → 0 ≤ val off j) :
    n_both_ends W s ⟨off⟩ = .ok ⟨tab (nw W) (Ch W s (val off))⟩ := by
  have n16 := nw_le h hs
  have e1 := len_ok (W := W) hs
  have e5 := rep_ok (n := nw W) (by omega) (0 : Int)
  rw [rep_tab] at e5
  simp only [n_both_ends, O2.f, OC.f, O1.f, SeqN.f, Ix.f, Sl.f, Un2.f, Un3.f, ok_bind, ex_bind, bad_bind, bind_asc, bind_okr, upR_refl, up_refl, upR_ok, upR_ex, up_D, up_some, up_none, up_nilL, up_nilT, oR_some, optB_some, nxE_nx, nxE_ret, em_D, id_eq, if_true_eq, if_false_eq, decide_eq_true_eq, Bool.not_true, Bool.not_false, ite_true_b, ite_false_b, Bool.true_and, Bool.and_true]
  obtain ⟨t, e2, e3⟩ := side_ok (W := W) hs
  rw [show ((W.c.l.length : Nat) : Int) = (nw W : Int) from rfl, e5, ok_bind, e2, ok_bind, e3, range_ok (by have := (h.len s hs).2; omega), ok_bind]
  obtain ⟨st', h1, h2⟩ := forN_nat (n := (sd W s).length) (st := tab (nw W) fun _ => 0) (f := fun (st5 : List Int) (p10 : Int) => n_chosen W s p10 ⟨off⟩ >>= fun q16 => mapN (st5.zip q16.l) fun p19 => R.ok (p19.1 + p19.2))
    (fun k st => st = tab (nw W) fun j => if (sdm W s).e j < k then Ch W s (val off) j else 0) (tab_congr fun j _ => (if_neg (by omega)).symm) fun k st hk hI => by
      subst hI
      refine ⟨_, ?_, rfl⟩
      rw [chosen_ok h hs hk hl ho, ok_bind, mapN_ok (g := fun p : Int × Int => p.1 + p.2) fun _ _ => rfl, zip_map_add]
      congr 1
      refine tab_congr fun j _ => ?_
      by_cases c : (sdm W s).e j = k
      · rw [if_pos c, if_neg (by omega), if_pos (by omega)]; omega
      · rw [if_neg c]
        by_cases c2 : (sdm W s).e j < k
        · rw [if_pos c2, if_pos (by omega)]; omega
        · rw [if_neg c2, if_neg (by omega)]; rfl
  rw [h1, ok_bind, h2]
  congr 2
  exact tab_congr fun j hj => if_pos (end_ok h hs hj).2
end
end Lw

/-! Drawn worlds and plans. -/
namespace Lw
open SF.Em (em)
open SF.Up (up)
open PySem SF Mt
noncomputable def dr (s : Scr) (k m : Int) : Int := match n__law_drawn s k m with
  | .ok r => r
  | _ => 0
theorem dr_ok {s : Scr} (h : s.ns.length ≤ 63) (k : Int) {m : Int} (hm : 0 < m) : n__law_drawn s k m = .ok (dr s k m) ∧ 0 ≤ dr s k m ∧ dr s k m < m := by
  have key : ∃ r, n__law_drawn s k m = .ok r ∧ 0 ≤ r ∧ r < m := by
    simp only [n__law_drawn, O2.f, OC.f, O1.f, SeqN.f, Ix.f, Sl.f, Un2.f, Un3.f, ok_bind, ex_bind, bad_bind, bind_asc, bind_okr, upR_refl, up_refl, upR_ok, upR_ex, up_D, up_some, up_none, up_nilL, up_nilT, oR_some, optB_some, nxE_nx, nxE_ret, em_D, id_eq, if_true_eq, if_false_eq, decide_eq_true_eq, Bool.not_true, Bool.not_false, ite_true_b, ite_false_b, Bool.true_and, Bool.and_true]
    unfold n__law_cell
    rw [if_pos h, ok_bind, mod_ok (by decide), ok_bind, mulR_ok (by decide), ok_bind, mul_ok (by decide), ok_bind, mod_ok (by decide), ok_bind]
    generalize hx : (cellI s.ns k % 2147483563 * 69069 + 104723 * (k + 1)) % 2147483563 = x
    have b1 : 0 ≤ x := by rw [← hx]; exact Int.emod_nonneg _ (by decide)
    have b2 : x < 2147483563 := by rw [← hx]; exact Int.emod_lt_of_pos _ (by decide)
    rw [mul_ok (by omega), ok_bind, fdiv_ok (by decide) (by decide), ok_bind, mod_ok (by decide), ok_bind]
    generalize hy : (x * x + x / 3) % 2147483399 = y
    have c1 : 0 ≤ y := by rw [← hy]; exact Int.emod_nonneg _ (by decide)
    have c2 : y < 2147483399 := by rw [← hy]; exact Int.emod_lt_of_pos _ (by decide)
    rw [mul_ok (by omega), ok_bind, fdiv_ok (by decide) (by decide), ok_bind, mod_ok (by decide), ok_bind, fdiv_ok (by decide) (by decide), ok_bind, mod_ok hm]
    exact ⟨_, rfl, Int.emod_nonneg _ (by omega), Int.emod_lt_of_pos _ hm⟩
  obtain ⟨r, h1, h2, h3⟩ := key
  have e : dr s k m = r := by unfold dr; rw [h1]
  rw [e]
  exact ⟨h1, h2, h3⟩
theorem enumN_length {α : Type} [Em α] (l : List α) : (enumN l).length = l.length := by unfold enumN; simp
theorem enumN_get {α : Type} [Em α] {l : List α} {k : Nat} {x : α} (h : l[k]? = some x) : (enumN l)[k]? = some ((k : Int), x) := by
  unfold enumN
  rw [List.getElem?_map, List.getElem?_zipIdx, h]
  simp
theorem enumN_split {α : Type} [Em α] {l : List α} {d r : List (Int × α)} {x : Int × α} (h : enumN l = d ++ x :: r) : x.1 = (d.length : Int) ∧ l[d.length]? = some x.2 ∧ d.map (·.2) = l.take d.length := by
  have e1 : (enumN l)[d.length]? = some x := by rw [h, List.getElem?_append_right (Nat.le_refl _), Nat.sub_self]; rfl
  have hl : d.length < l.length := by
    have := congrArg List.length h
    rw [enumN_length] at this
    simp at this
    omega
  have e2 := enumN_get (List.getElem?_eq_getElem hl)
  rw [e1] at e2
  have e2 := Option.some.inj e2
  subst e2
  refine ⟨rfl, List.getElem?_eq_getElem hl, ?_⟩
  have e3 := congrArg (List.map (·.2)) h
  have e4 : (enumN l).map (·.2) = l := by
    unfold enumN
    rw [List.map_map]
    show List.map (fun p => p.1) (l.zipIdx) = l
    rw [List.zipIdx_map_fst]
  rw [e4, List.map_append] at e3
  have e5 := congrArg (List.take d.length) e3
  rw [e5, List.take_append_of_le_length (by simp), List.take_of_length_le (by simp)]
/-- rows in drawn orders -/
theorem orders_ok {s : Scr} (hs : s.ns.length ≤ 63) (k : Int) {rows : List (List Int)} (h1 : rows.length ≤ 100) (h2 : ∀ r ∈ rows, r.length ≤ 100) : ∃ out, n__law_orders s k rows = .ok out ∧ out.length = rows.length ∧ ∀ (j : Nat) (r : List Int), rows[j]? = some r → ∃ t, out[j]? = some t ∧ t.l.Perm r := by
  simp only [n__law_orders, O2.f, OC.f, O1.f, SeqN.f, Ix.f, Sl.f, Un2.f, Un3.f, ok_bind, ex_bind, bad_bind, bind_asc, bind_okr, upR_refl, up_refl, upR_ok, upR_ex, up_D, up_some, up_none, up_nilL, up_nilT, oR_some, optB_some, nxE_nx, nxE_ret, em_D, id_eq, if_true_eq, if_false_eq, decide_eq_true_eq, Bool.not_true, Bool.not_false, ite_true_b, ite_false_b, Bool.true_and, Bool.and_true]
  have step : ∀ (d : List (Int × List Int)) (x : Int × List Int) (r : List (Int × List Int)) (st : List (Tp Int)), enumN rows = d ++ x :: r → (st.length = d.length ∧ ∀ (j : Nat) (q : List Int), (d.map (·.2))[j]? = some q → ∃ t, st[j]? = some t ∧ t.l.Perm q) →
      ∃ st', (forN (enumN x.2) (up NilL.v : List Int) (fun st10 p15 => mulN 4 x.1 >>= fun x_1 => n__law_drawn s (k + x_1 + p15.1) (↑st10.length + 1) >>= fun q17 => insN st10 q17 p15.2) >>= fun st10 => appN st ⟨st10⟩) = .ok st' ∧ st'.length = (d ++ [x]).length ∧ ∀ (j : Nat) (q : List Int), ((d ++ [x]).map (·.2))[j]? = some q → ∃ t, st'[j]? = some t ∧ t.l.Perm q := fun d x r st he hI => by
    obtain ⟨g1, g2, g3⟩ := enumN_split he
    have hx : x.2 ∈ rows := List.mem_of_getElem? g2
    have hlx := h2 _ hx
    obtain ⟨st', i1, i2⟩ := forN_run (l := enumN x.2) (st := (up NilL.v : List Int)) (f := fun st10 p15 => mulN 4 x.1 >>= fun x_1 => n__law_drawn s (k + x_1 + p15.1) (↑st10.length + 1) >>= fun q17 => insN st10 q17 p15.2)
      (fun d st => st.Perm (d.map (·.2))) (by simp) fun d y r st hd hI => by
        obtain ⟨w1, w2, w3⟩ := enumN_split hd
        have hl := hI.length_eq
        rw [List.length_map] at hl
        have hdl : d.length < x.2.length := (List.getElem?_eq_some_iff.mp w2).1
        obtain ⟨q1, q2, q3⟩ := dr_ok hs (k + 4 * x.1 + y.1) (m := (st.length : Int) + 1) (by omega)
        have q4 : dr s (k + 4 * x.1 + y.1) ((st.length : Int) + 1) = ((dr s (k + 4 * x.1 + y.1) ((st.length : Int) + 1)).toNat : Int) := by omega
        refine ⟨_, by rw [mul_ok (by decide), ok_bind, q1, ok_bind, q4, ins_ok (by omega) (by omega)], ?_⟩
        rw [List.map_append]
        generalize (dr s (k + 4 * x.1 + y.1) ((st.length : Int) + 1)).toNat = m
        have p1 : (st.take m ++ [y.2] ++ st.drop m).Perm ([y.2] ++ (st.take m ++ st.drop m)) := by
          rw [← List.append_assoc]
          exact (List.perm_append_comm).append_right _
        rw [List.take_append_drop] at p1
        exact p1.trans ((List.perm_append_comm).trans (hI.append_right _))
    rw [i1, ok_bind, app_ok (by
      have := congrArg List.length he
      rw [enumN_length] at this
      simp at this
      omega)]
    refine ⟨_, rfl, by simp [hI.1], fun j q hq => ?_⟩
    rw [List.map_append] at hq
    by_cases c : j < d.length
    · rw [List.getElem?_append_left (by simpa using c)] at hq
      obtain ⟨t, t1, t2⟩ := hI.2 j q hq
      exact ⟨t, by rw [List.getElem?_append_left (by omega)]; exact t1, t2⟩
    · rw [List.getElem?_append_right (by simpa using Nat.le_of_not_lt c)] at hq
      rw [List.getElem?_append_right (by omega), hI.1]
      rw [List.length_map] at hq
      have hj : j - d.length = 0 := by
        have := (List.getElem?_eq_some_iff.mp hq).1
        simp at this
        omega
      rw [hj] at hq ⊢
      refine ⟨_, rfl, ?_⟩
      have hq : x.2 = q := Option.some.inj hq
      rw [← hq]
      have e4 : (enumN x.2).map (·.2) = x.2 := by
        unfold enumN
        rw [List.map_map]
        show List.map (fun p => p.1) (x.2.zipIdx) = x.2
        rw [List.zipIdx_map_fst]
      rw [e4] at i2
      exact i2
  obtain ⟨out, o1, o2, o3⟩ := forN_run (l := enumN rows) (st := (up NilL.v : List (Tp Int))) (f := fun st1 p9 => forN (enumN p9.2) (up NilL.v : List Int) (fun st10 p15 => mulN 4 p9.1 >>= fun x_1 => n__law_drawn s (k + x_1 + p15.1) (↑st10.length + 1) >>= fun q17 => insN st10 q17 p15.2) >>= fun st10 => appN st1 ⟨st10⟩)
    (fun d st => st.length = d.length ∧ ∀ (j : Nat) (q : List Int), (d.map (·.2))[j]? = some q → ∃ t, st[j]? = some t ∧ t.l.Perm q) ⟨rfl, fun j q hq => by simp at hq⟩ step
  refine ⟨out, o1, by rw [o2, enumN_length], fun j r hr => o3 j r ?_⟩
  have e4 : (enumN rows).map (·.2) = rows := by
    unfold enumN
    rw [List.map_map]
    show List.map (fun p => p.1) (rows.zipIdx) = rows
    rw [List.zipIdx_map_fst]
  rw [e4]
  exact hr
/-- what is known of a drawn world -/
structure Small (W : Wd) (most : Int) : Prop extends WOk W where
  a3 : ∀ s, Sid s → ∀ p ∈ sd W s, p.1 ≤ 3
  l2 : ∀ w ∈ W.c.l, w.c ≤ 2
  s3 : ∀ s, Sid s → (sd W s).length ≤ 3
  nm : (nw W : Int) ≤ most
theorem rowsOk {ways : List Wy} (h16 : ways.length ≤ 16) (s : Int) (n : Nat) (hn : n ≤ 3) : ((List.range n).map fun g : Nat => (ways.filter fun w => decide (en w s = (g : Int))).map fun w => en w (1 - s)).length ≤ 100 ∧ ∀ r ∈ ((List.range n).map fun g : Nat => (ways.filter fun w => decide (en w s = (g : Int))).map fun w => en w (1 - s)), r.length ≤ 100 := by
  refine ⟨by simp; omega, fun r hr => ?_⟩
  obtain ⟨g, _, rfl⟩ := List.mem_map.mp hr
  rw [List.length_map]
  have := List.length_filter_le (fun w => decide (en w s = (g : Int))) ways
  omega
theorem places_ok {s : Scr} (hs : s.ns.length ≤ 63) (k : Int) (out : List (Tp Int)) : mapN (enumN out) (fun p => n__law_drawn s (k + p.1) 4 >>= fun q => R.ok (q, p.2)) = .ok ((enumN out).map fun p => (dr s (k + p.1) 4, p.2)) :=
  mapN_ok fun p _ => by rw [(dr_ok hs (k + p.1) (m := 4) (by decide)).1]; rfl
theorem places_get (s : Scr) (k : Int) (out : List (Tp Int)) (j : Nat) : ((enumN out).map fun p => (dr s (k + p.1) 4, p.2))[j]? = out[j]?.map fun t => (dr s (k + (j : Int)) 4, t) := by
  rw [List.getElem?_map]
  cases ho : out[j]? with
  | none =>
    rw [List.getElem?_eq_none (by rw [enumN_length]; exact List.getElem?_eq_none_iff.mp ho)]
    rfl
  | some t => rw [enumN_get ho]; rfl
/-- the last part: places with drawn likes -/
theorem world_of {s : Scr} (hs : s.ns.length ≤ 63) {most : Int} {m z : Nat} (hm : 1 ≤ m ∧ m ≤ 3) (hz : 1 ≤ z ∧ z ≤ 3) {ways : List Wy} (h1 : ways.Pairwise fun a b => a.a < b.a ∨ a.a = b.a ∧ a.b < b.b) (h2 : ∀ w ∈ ways, 0 ≤ w.a ∧ w.a < m ∧ 0 ≤ w.b ∧ w.b < z ∧ 1 ≤ w.c ∧ w.c ≤ 2) (h3 : (ways.length : Int) ≤ most)
    {k k' : Int} {mine yours : List (Tp Int)} (l1 : mine.length = m) (l2 : yours.length = z)
    (o1 : ∀ (j : Nat) (r : List Int), ((List.range m).map fun g : Nat => (ways.filter fun w => decide (en w 0 = (g : Int))).map fun w => en w (1 - 0))[j]? = some r → ∃ t, mine[j]? = some t ∧ t.l.Perm r)
    (o2 : ∀ (j : Nat) (r : List Int), ((List.range z).map fun g : Nat => (ways.filter fun w => decide (en w 1 = (g : Int))).map fun w => en w (1 - 1))[j]? = some r → ∃ t, yours[j]? = some t ∧ t.l.Perm r) :
    Small ⟨⟨(enumN mine).map fun p => (dr s (k + p.1) 4, p.2)⟩, ⟨(enumN yours).map fun p => (dr s (k' + p.1) 4, p.2)⟩, ⟨ways⟩⟩ most := by
  have amt : ∀ (k : Int) (out : List (Tp Int)), ∀ p ∈ (enumN out).map fun p => (dr s (k + p.1) 4, p.2), 0 ≤ p.1 ∧ p.1 ≤ 3 := fun k out p hp => by
    obtain ⟨q, _, rfl⟩ := List.mem_map.mp hp
    have := dr_ok hs (k + q.1) (m := 4) (by decide)
    exact ⟨this.2.1, by have := this.2.2; dsimp only; omega⟩
  have lk : ∀ (si : Int) (n : Nat) (k : Int) (out : List (Tp Int)), (∀ (j : Nat) (r : List Int), ((List.range n).map fun g : Nat => (ways.filter fun w => decide (en w si = (g : Int))).map fun w => en w (1 - si))[j]? = some r → ∃ t, out[j]? = some t ∧ t.l.Perm r) → out.length = n →
      ∀ (p : Nat) (q : Pl), ((enumN out).map fun p => (dr s (k + p.1) 4, p.2))[p]? = some q → q.2.l.Perm ((ways.filter fun w => decide (en w si = p)).map fun w => en w (1 - si)) := fun si n k out ho hl p q hq => by
    rw [places_get] at hq
    have hp : p < n := by
      by_cases c : p < n
      · exact c
      · rw [List.getElem?_eq_none (by omega)] at hq; cases hq
    obtain ⟨t, t1, t2⟩ := ho p _ (by rw [List.getElem?_map, List.getElem?_range hp]; rfl)
    rw [t1] at hq
    have hq := Option.some.inj hq
    rw [← hq]
    exact t2
  have hl : ∀ si, Sid si → (sd (⟨⟨(enumN mine).map fun p => (dr s (k + p.1) 4, p.2)⟩, ⟨(enumN yours).map fun p => (dr s (k' + p.1) 4, p.2)⟩, ⟨ways⟩⟩ : Wd) si).length = if si = 0 then m else z := fun si hsi => by
    rcases hsi with rfl | rfl
    · show ((enumN mine).map _).length = m
      rw [List.length_map, enumN_length, l1]
    · show ((enumN yours).map _).length = z
      rw [List.length_map, enumN_length, l2]
  refine ⟨⟨fun si hsi => ?_, fun si hsi p hp => ?_, fun w hw => ⟨fun si hsi => ?_, ?_⟩, h1, fun si hsi p q hq => ?_⟩, fun si hsi p hp => ?_, fun w hw => (h2 w hw).2.2.2.2.2, fun si hsi => ?_, h3⟩
  · rw [hl si hsi]; rcases hsi with rfl | rfl
    · rw [if_pos rfl]; omega
    · rw [if_neg (by decide)]; omega
  · rcases hsi with rfl | rfl
    · have := amt k mine p hp; omega
    · have := amt k' yours p hp; omega
  · rw [hl si hsi]
    have := h2 w hw
    rcases hsi with rfl | rfl
    · rw [if_pos rfl]; show 0 ≤ w.a ∧ w.a < m; omega
    · rw [if_neg (by decide)]; show 0 ≤ w.b ∧ w.b < z; omega
  · have := h2 w hw; omega
  · rcases hsi with rfl | rfl
    · exact lk 0 m k mine o1 l1 p q hq
    · exact lk 1 z k' yours o2 l2 p q hq
  · rcases hsi with rfl | rfl
    · exact (amt k mine p hp).2
    · exact (amt k' yours p hp).2
  · rw [hl si hsi]; rcases hsi with rfl | rfl
    · rw [if_pos rfl]; omega
    · rw [if_neg (by decide)]; omega
theorem special_ok (e : Int) (h : 1 ≤ e ∧ e ≤ 2) {most : Int} (hm : 3 < most) : Small ⟨⟨[(e, ⟨[0, 1]⟩), (e, ⟨[1, 0]⟩)]⟩, ⟨[(e, ⟨[1, 0]⟩), (e, ⟨[0, 1]⟩)]⟩, ⟨[⟨0, 0, 2⟩, ⟨0, 1, 2⟩, ⟨1, 0, 2⟩, ⟨1, 1, 2⟩]⟩⟩ most := by
  have key : ∀ e : Int, e = 1 ∨ e = 2 → ∀ W : Wd, W = ⟨⟨[(e, ⟨[0, 1]⟩), (e, ⟨[1, 0]⟩)]⟩, ⟨[(e, ⟨[1, 0]⟩), (e, ⟨[0, 1]⟩)]⟩, ⟨[⟨0, 0, 2⟩, ⟨0, 1, 2⟩, ⟨1, 0, 2⟩, ⟨1, 1, 2⟩]⟩⟩ →
      (∀ s, Sid s → (sd W s).length = 2 ∧ (∀ p ∈ sd W s, 0 ≤ p.1 ∧ p.1 ≤ 3) ∧ (∀ w ∈ W.c.l, 0 ≤ en w s ∧ en w s < 2) ∧ ∀ p ∈ (sd W s).zipIdx, p.1.2.l.Perm ((W.c.l.filter fun w => decide (en w s = p.2)).map fun w => en w (1 - s))) ∧ ∀ w ∈ W.c.l, 1 ≤ w.c ∧ w.c ≤ 2 := fun e he W hW => by
    subst hW
    refine ⟨fun s hs => ?_, ?_⟩
    · rcases hs with rfl | rfl <;> rcases he with rfl | rfl <;> exact ⟨rfl, by decide, by decide, by decide⟩
    · rcases he with rfl | rfl <;> decide
  obtain ⟨k1, k2⟩ := key e (by omega) _ rfl
  refine ⟨⟨fun si hsi => ?_, fun si hsi p hp => ?_, fun w hw => ⟨fun si hsi => ?_, ?_⟩, by simp, fun si hsi p q hq => ?_⟩, fun si hsi p hp => ?_, fun w hw => (k2 w hw).2, fun si hsi => ?_, ?_⟩
  · have := (k1 si hsi).1; omega
  · have := (k1 si hsi).2.1 p hp; omega
  · rw [(k1 si hsi).1]; exact (k1 si hsi).2.2.1 w hw
  · have := k2 w hw; omega
  · exact (k1 si hsi).2.2.2 (q, p) (List.mem_iff_getElem?.mpr ⟨p, by rw [List.getElem?_zipIdx, hq]; simp⟩)
  · exact ((k1 si hsi).2.1 p hp).2
  · rw [(k1 si hsi).1]; decide
  · show (4 : Int) ≤ most; omega
theorem world_ok {s : Scr} (hs : s.ns.length ≤ 63) (k : Int) {most : Int} (h0 : 0 ≤ most) (h9 : most ≤ 9) : ∃ W, n__law_world s k most = .ok W ∧ Small W most := by
  simp only [n__law_world, O2.f, OC.f, O1.f, SeqN.f, Ix.f, Sl.f, Un2.f, Un3.f, ok_bind, ex_bind, bad_bind, bind_asc, bind_okr, upR_refl, up_refl, upR_ok, upR_ex, up_D, up_some, up_none, up_nilL, up_nilT, oR_some, optB_some, nxE_nx, nxE_ret, em_D, id_eq, if_true_eq, if_false_eq, decide_eq_true_eq, Bool.not_true, Bool.not_false, ite_true_b, ite_false_b, Bool.true_and, Bool.and_true]
  have gen : ∃ W, (n__law_drawn s k 3 >>= fun x => n__law_drawn s (k + 1) 3 >>= fun x_1 => mulN (1 + x) (1 + x_1) >>= fun x_2 => rangeN 0 x_2 >>= fun q160 =>
      forN q160 ([] : List Wy) (fun st70 p75 => (if (st70.length : Int) < most then n__law_drawn s (k + 2 + p75) 4 >>= fun q85 => R.ok (decide (0 < q85)) else R.ok false) >>= fun q88 => if q88 = true then fdivN p75 (1 + x_1) >>= fun x => modN p75 (1 + x_1) >>= fun x_3 => n__law_drawn s (k + 12 + p75) 2 >>= fun x_4 => appN st70 ⟨x, x_3, 1 + x_4⟩ else R.ok st70) >>= fun st70 =>
      rangeN 0 (1 + x) >>= fun x => mapN x (fun p110 => lcN st70 (fun p112 => R.ok (decide (p112.a = p110))) fun p112 => R.ok p112.b) >>= fun x => n__law_orders s (k + 24) x >>= fun v_mine =>
      rangeN 0 (1 + x_1) >>= fun x => mapN x (fun p122 => lcN st70 (fun p124 => R.ok (decide (p124.b = p122))) fun p124 => R.ok p124.a) >>= fun x => n__law_orders s (k + 40) x >>= fun v_yours =>
      mapN (enumN v_mine) (fun p133 => n__law_drawn s (k + 56 + p133.1) 4 >>= fun q142 => R.ok (q142, p133.2)) >>= fun x => mapN (enumN v_yours) (fun p146 => n__law_drawn s (k + 60 + p146.1) 4 >>= fun q155 => R.ok (q155, p146.2)) >>= fun x_3 =>
      R.ok (⟨⟨x⟩, ⟨x_3⟩, ⟨st70⟩⟩ : Wd)) = .ok W ∧ Small W most := by
    obtain ⟨m1, m2, m3⟩ := dr_ok hs k (m := 3) (by decide)
    obtain ⟨z1, z2, z3⟩ := dr_ok hs (k + 1) (m := 3) (by decide)
    rw [m1, ok_bind, z1, ok_bind]
    obtain ⟨m, hm⟩ : ∃ m : Nat, 1 + dr s k 3 = (m : Int) := ⟨(1 + dr s k 3).toNat, by omega⟩
    obtain ⟨z, hz⟩ : ∃ m : Nat, 1 + dr s (k + 1) 3 = (m : Int) := ⟨(1 + dr s (k + 1) 3).toNat, by omega⟩
    rw [hm, hz, mul_ok (by omega), ok_bind]
    have hm' : 1 ≤ m ∧ m ≤ 3 := by omega
    have hz' : 1 ≤ z ∧ z ≤ 3 := by omega
    have hmz : m * z ≤ 1000000 := Nat.le_trans (Nat.mul_le_mul hm'.2 hz'.2) (by decide)
    rw [← Int.natCast_mul, range_ok hmz, ok_bind]
    obtain ⟨ways, w1, w2, w3, w4⟩ := forN_nat (n := m * z) (st := ([] : List Wy)) (f := fun st70 p75 => (if (st70.length : Int) < most then n__law_drawn s (k + 2 + p75) 4 >>= fun q85 => R.ok (decide (0 < q85)) else R.ok false) >>= fun q88 => if q88 = true then fdivN p75 (z : Int) >>= fun x => modN p75 (z : Int) >>= fun x_3 => n__law_drawn s (k + 12 + p75) 2 >>= fun x_4 => appN st70 ⟨x, x_3, 1 + x_4⟩ else R.ok st70)
      (fun j ws => ws.Pairwise (fun a b => a.a < b.a ∨ a.a = b.a ∧ a.b < b.b) ∧ (∀ w ∈ ws, 0 ≤ w.a ∧ w.a < m ∧ 0 ≤ w.b ∧ w.b < z ∧ 1 ≤ w.c ∧ w.c ≤ 2 ∧ w.a * z + w.b < j) ∧ (ws.length : Int) ≤ most) ⟨.nil, (fun w hw => absurd hw (List.not_mem_nil)), h0⟩ fun j ws hj hI => by
        obtain ⟨i1, i2, i3⟩ := hI
        have keep : ws.Pairwise (fun a b => a.a < b.a ∨ a.a = b.a ∧ a.b < b.b) ∧ (∀ w ∈ ws, 0 ≤ w.a ∧ w.a < m ∧ 0 ≤ w.b ∧ w.b < z ∧ 1 ≤ w.c ∧ w.c ≤ 2 ∧ w.a * z + w.b < (j + 1 : Nat)) ∧ (ws.length : Int) ≤ most := ⟨i1, fun w hw => by have := i2 w hw; omega, i3⟩
        by_cases c : (ws.length : Int) < most
        · rw [if_pos c, (dr_ok hs _ (m := 4) (by decide)).1, ok_bind, ok_bind]
          by_cases c2 : 0 < dr s (k + 2 + (j : Int)) 4
          · rw [if_pos (decide_eq_true c2), fdiv_ok (by omega) (by omega), ok_bind, mod_ok (by omega), ok_bind, (dr_ok hs _ (m := 2) (by decide)).1, ok_bind, app_ok (by omega)]
            have hd := dr_ok hs (k + 12 + (j : Int)) (m := 2) (by decide)
            have hb1 := Int.emod_nonneg (j : Int) (b := (z : Int)) (by omega)
            have hb2 := Int.emod_lt_of_pos (j : Int) (b := (z : Int)) (by omega)
            have hb3 := Int.mul_ediv_add_emod (j : Int) (z : Int)
            have ha : 0 ≤ (j : Int) / z ∧ (j : Int) / z < m := by
              refine ⟨Int.ediv_nonneg (by omega) (by omega), Int.ediv_lt_of_lt_mul (by omega) ?_⟩
              rw [← Int.natCast_mul]; omega
            generalize hA : (j : Int) / z = A at *
            generalize hB : (j : Int) % z = B at *
            have hC : 1 ≤ 1 + dr s (k + 12 + (j : Int)) 2 ∧ 1 + dr s (k + 12 + (j : Int)) 2 ≤ 2 := by omega
            generalize 1 + dr s (k + 12 + (j : Int)) 2 = cc at hC ⊢
            refine ⟨_, rfl, ?_, fun w hw => ?_, by simp; omega⟩
            · rw [List.pairwise_append]
              refine ⟨i1, List.pairwise_singleton _ _, fun a ha' b hb' => ?_⟩
              rw [List.mem_singleton.mp hb']
              have q := i2 a ha'
              have hlt : a.a * z + a.b < z * A + B := by omega
              by_cases c3 : a.a < A
              · exact .inl c3
              · right
                by_cases c4 : a.a = A
                · refine ⟨c4, ?_⟩
                  rw [c4, Int.mul_comm] at hlt
                  show a.b < B
                  omega
                · exfalso
                  have : A + 1 ≤ a.a := by omega
                  have := Int.mul_le_mul_of_nonneg_left this (show (0 : Int) ≤ z by omega)
                  rw [Int.mul_add, Int.mul_one] at this
                  rw [Int.mul_comm] at hlt
                  omega
            · rcases List.mem_append.mp hw with hw | hw
              · have := i2 w hw; omega
              · rw [List.mem_singleton.mp hw]
                dsimp only
                rw [Int.mul_comm A]
                omega
          · rw [if_neg (by simpa using c2)]
            exact ⟨_, rfl, keep⟩
        · rw [if_neg c, ok_bind, if_neg Bool.false_ne_true]
          exact ⟨_, rfl, keep⟩
    rw [w1, ok_bind, range_ok (by omega), ok_bind]
    have h16 : ways.length ≤ 16 := by omega
    have r1 := rowsOk h16 0 m hm'.2
    have r2 := rowsOk h16 1 z hz'.2
    obtain ⟨mine, o1, o2, o3⟩ := orders_ok hs (k + 24) r1.1 r1.2
    obtain ⟨yours, p1, p2, p3⟩ := orders_ok hs (k + 40) r2.1 r2.2
    have e1 : mapN ((List.range m).map fun k : Nat => (k : Int)) (fun p110 => lcN ways (fun p112 => R.ok (decide (p112.a = p110))) fun p112 => R.ok p112.b) = .ok ((List.range m).map fun g : Nat => (ways.filter fun w => decide (en w 0 = (g : Int))).map fun w => en w (1 - 0)) := by
      refine (mapN_ok (g := fun g : Int => (ways.filter fun w => decide (en w 0 = g)).map fun w => en w (1 - 0)) fun g _ => lcN_ok (p := fun w => decide (en w 0 = g)) (g := fun w => en w (1 - 0)) (fun _ _ => rfl) (fun _ _ _ => rfl)).trans ?_
      rw [List.map_map]
      rfl
    have e2 : mapN ((List.range z).map fun k : Nat => (k : Int)) (fun p110 => lcN ways (fun p112 => R.ok (decide (p112.b = p110))) fun p112 => R.ok p112.a) = .ok ((List.range z).map fun g : Nat => (ways.filter fun w => decide (en w 1 = (g : Int))).map fun w => en w (1 - 1)) := by
      refine (mapN_ok (g := fun g : Int => (ways.filter fun w => decide (en w 1 = g)).map fun w => en w (1 - 1)) fun g _ => lcN_ok (p := fun w => decide (en w 1 = g)) (g := fun w => en w (1 - 1)) (fun _ _ => rfl) (fun _ _ _ => rfl)).trans ?_
      rw [List.map_map]
      rfl
    rw [e1, ok_bind, o1, ok_bind, range_ok (by omega), ok_bind, e2, ok_bind, p1, ok_bind, places_ok hs, ok_bind, places_ok hs, ok_bind]
    refine ⟨_, rfl, world_of hs hm' hz' w2 (fun w hw => by have := w3 w hw; omega) w4 (by rw [o2]; simp) (by rw [p2]; simp) o3 p3⟩
  by_cases c : 3 < most
  · obtain ⟨d1, d2, d3⟩ := dr_ok hs (k + 64) (m := 4) (by decide)
    rw [if_pos c, d1, ok_bind, ok_bind]
    by_cases c2 : dr s (k + 64) 4 = 0
    · obtain ⟨f1, f2, f3⟩ := dr_ok hs (k + 65) (m := 2) (by decide)
      rw [if_pos (decide_eq_true c2), f1, ok_bind]
      exact ⟨_, rfl, special_ok (1 + dr s (k + 65) 2) (by omega) c⟩
    · rw [if_neg (by simpa using c2)]
      exact gen
  · rw [if_neg c, ok_bind, if_neg Bool.false_ne_true]
    exact gen
end Lw

/-! Sorting; worlds are worlds. -/
namespace SF
open SF.Em (em)
open SF.Up (up)
open PySem
section
variable {α : Type}
theorem dedup_self [DecidableEq α] : ∀ {l : List α}, l.Nodup → dedupL l = l
  | [], _ => rfl
  | x :: r, h => by
    obtain ⟨h1, h2⟩ := List.nodup_cons.mp h
    unfold dedupL
    rw [if_neg h1, dedup_self h2]
theorem mem_dedup [DecidableEq α] {x : α} : ∀ {l : List α}, x ∈ dedupL l ↔ x ∈ l
  | [] => by simp [dedupL]
  | y :: r => by
    unfold dedupL
    split
    · rename_i h
      rw [mem_dedup (l := r), List.mem_cons]
      constructor
      · exact .inr
      · rintro (rfl | h')
        · exact h
        · exact h'
    · rw [List.mem_cons, List.mem_cons, mem_dedup (l := r)]
theorem nodup_dedup [DecidableEq α] : ∀ {l : List α}, (dedupL l).Nodup
  | [] => .nil
  | y :: r => by
    unfold dedupL
    split
    · exact nodup_dedup
    · rename_i h
      exact List.nodup_cons.mpr ⟨fun z => h (mem_dedup.mp z), nodup_dedup⟩
end
section
variable {α : Type} [Em α] [Fl α]
theorem lexT {x y z : List Int} (h1 : lexLe x y = true) (h2 : lexLe y z = true) : lexLe x z = true := by
  letI : KS := ⟨fun _ _ => True⟩
  exact lexLe_trans h1 h2
theorem lexTot (x y : List Int) : lexLe x y = true ∨ lexLe y x = true := by
  letI : KS := ⟨fun _ _ => True⟩
  exact lexLe_total x y
theorem lexA {x y : List Int} (h1 : lexLe x y = true) (h2 : lexLe y x = true) : x = y := by
  letI : KS := ⟨fun _ _ => True⟩
  exact lexLe_anti h1 h2
abbrev LeF (x y : α) : Prop := lexLe (Fl.fl x) (Fl.fl y) = true
theorem insF_perm (x : α) : ∀ l : List α, (insF x l).Perm (x :: l)
  | [] => .refl _
  | y :: r => by
    unfold insF
    split
    · exact .refl _
    · exact ((insF_perm x r).cons y).trans (.swap x y r)
theorem sortF_perm : ∀ l : List α, (sortF l).Perm l
  | [] => .refl _
  | x :: r => (insF_perm x (sortF r)).trans ((sortF_perm r).cons x)
theorem insF_sorted (x : α) : ∀ {l : List α}, l.Pairwise LeF → (insF x l).Pairwise LeF
  | [], _ => List.pairwise_singleton _ _
  | y :: r, h => by
    unfold insF
    obtain ⟨h1, h2⟩ := List.pairwise_cons.mp h
    split
    · rename_i c
      refine List.pairwise_cons.mpr ⟨fun z hz => ?_, h⟩
      rcases List.mem_cons.mp hz with rfl | hz
      · exact c
      · exact lexT c (h1 z hz)
    · rename_i c
      refine List.pairwise_cons.mpr ⟨fun z hz => ?_, insF_sorted x h2⟩
      rcases List.mem_cons.mp ((insF_perm x r).mem_iff.mp hz) with rfl | hz
      · exact (lexTot (Fl.fl z) (Fl.fl y)).resolve_left c
      · exact h1 z hz
theorem sortF_sorted : ∀ l : List α, (sortF l).Pairwise LeF
  | [] => .nil
  | x :: r => insF_sorted x (sortF_sorted r)
theorem sortF_eq [FlI α] {l m : List α} (h : l.Perm m) (hm : m.Pairwise LeF) : sortF l = m :=
  List.Perm.eq_of_pairwise (le := LeF) (fun a b _ _ h1 h2 => FlI.inj a b (lexA h1 h2)) (sortF_sorted l) hm ((sortF_perm l).trans h)
theorem okF_of {l : List α} (k : Nat) (hk : 1 ≤ k) (h : l.length < 64) (h2 : ∀ x ∈ l, (Fl.fl x).length = k ∧ ∀ i ∈ Fl.fl x, 0 ≤ i ∧ i < 64) : okF l = true := by
  unfold okF
  cases l with
  | nil => rfl
  | cons y l =>
    have e : ((List.map Fl.fl (y :: l)).headD []).length = k := (h2 y List.mem_cons_self).1
    dsimp only
    rw [e]
    unfold okTups
    rw [Bool.or_eq_true]
    left
    rw [Bool.and_eq_true, Bool.and_eq_true, decide_eq_true_eq, decide_eq_true_eq, List.all_eq_true, List.length_map]
    refine ⟨⟨hk, h⟩, fun x hx => ?_⟩
    obtain ⟨z, hz, rfl⟩ := List.mem_map.mp hx
    have := h2 z hz
    rw [Bool.and_eq_true, decide_eq_true_eq, List.all_eq_true]
    exact ⟨this.1, fun i hi => by simp [this.2 i hi]⟩
theorem sort_ok [FlI α] {l m : List α} (k : Nat) (hk : 1 ≤ k) (h : l.length < 64) (h2 : ∀ x ∈ l, (Fl.fl x).length = k ∧ ∀ i ∈ Fl.fl x, 0 ≤ i ∧ i < 64) (p : l.Perm m) (hm : m.Pairwise LeF) : sortN l = .ok m := by
  unfold sortN
  rw [gd_pos (okF_of k hk h h2), sortF_eq p hm]
theorem sortD_ok [FlI α] {l m : List α} (k : Nat) (hk : 1 ≤ k) (h : l.length < 64) (h2 : ∀ x ∈ l, (Fl.fl x).length = k ∧ ∀ i ∈ Fl.fl x, 0 ≤ i ∧ i < 64) (p : l.Perm m) (hm : m.Pairwise LeF) : sortedD (l.map em) = .ok (.list (m.map em)) := by
  have e : Ref (op1D .sorted (em l)) (sortN l) := O1.ok (o := .sorted) l
  rw [sort_ok k hk h h2 p hm] at e
  exact e
theorem sortSetD_ok [FlI α] [DecidableEq α] {l : List α} (k : Nat) (hk : 1 ≤ k) (h : l.length < 64) (h2 : ∀ x ∈ l, (Fl.fl x).length = k ∧ ∀ i ∈ Fl.fl x, 0 ≤ i ∧ i < 64) : sortedSetD (l.map em) = .ok (.list ((sortF (dedupL l)).map em)) := by
  have e : Ref (op1D .sortedSet (em l)) (sortSetN l) := O1.ok (o := .sortedSet) l
  unfold sortSetN at e
  rw [gd_pos (okF_of k hk h h2)] at e
  exact e
end
theorem mapN_map {α β γ : Type} {g : α → β} {f : β → R γ} : ∀ {l : List α}, mapN (l.map g) f = mapN l fun x => f (g x)
  | [] => rfl
  | x :: l => by
    rw [List.map_cons]
    unfold mapN
    rw [mapN_map]
section
variable {α β γ : Type} [Em α] [Em β]
theorem seq_em (t : Tp α) : seqD (em t) = .ok (t.l.map em) := rfl
theorem isT (t : Tp α) : boolOf (op1D (.isInst .tuple) (em t)) = .ok true := rfl
theorem lenT (t : Tp α) : intOf (op1D .len (em t)) = .ok (t.l.length : Int) := by show R.ok _ = _; rw [List.length_map]
end
end SF
namespace Lw
open SF.Em (em)
open SF.Up (up)
open PySem SF Mt
theorem number_int (i lo hi : Int) : n_is_number (.int i) lo hi = .ok (decide (lo ≤ i ∧ i ≤ hi)) := by
  simp only [n_is_number, O2.f, OC.f, O1.f, SeqN.f, Ix.f, Sl.f, Un2.f, Un3.f, ok_bind, ex_bind, bad_bind, bind_asc, bind_okr, upR_refl, up_refl, upR_ok, upR_ex, up_D, up_some, up_none, up_nilL, up_nilT, oR_some, optB_some, nxE_nx, nxE_ret, em_D, id_eq, if_true_eq, if_false_eq, decide_eq_true_eq, Bool.not_true, Bool.not_false, ite_true_b, ite_false_b, Bool.true_and, Bool.and_true]
  have e1 : boolOf (op1D (.isInst .int) (.int i)) = .ok true := rfl
  have e2 : boolOf (op1D (.isInst .bool) (.int i)) = .ok false := rfl
  rw [e1, ok_bind, e2]
  show (if true = true then (if (!false) = true then (R.ok (decide (lo ≤ i)) >>= fun q4 => if q4 = true then R.ok (decide (i ≤ hi)) else R.ok false) else R.ok false) else R.ok false) = _
  rw [if_pos (show (!false) = true from rfl), ok_bind]
  by_cases c : lo ≤ i
  · rw [if_pos (decide_eq_true c)]; simp [c]
  · rw [if_neg (fun z => c (of_decide_eq_true z))]; simp [c]
theorem are_places_ok (t : Tp Pl) : n_are_places (em t) = .ok (decide (1 ≤ (t.l.length : Int) ∧ (t.l.length : Int) ≤ 4)) := by
  simp only [n_are_places, O2.f, OC.f, O1.f, SeqN.f, Ix.f, Sl.f, Un2.f, Un3.f, ok_bind, ex_bind, bad_bind, bind_asc, bind_okr, upR_refl, up_refl, upR_ok, upR_ex, up_D, up_some, up_none, up_nilL, up_nilT, oR_some, optB_some, nxE_nx, nxE_ret, em_D, id_eq, if_true_eq, if_false_eq, decide_eq_true_eq, Bool.not_true, Bool.not_false, ite_true_b, ite_false_b, Bool.true_and, Bool.and_true, isT, lenT]
  by_cases c : 1 ≤ (t.l.length : Int)
  · rw [if_pos c]; simp [c]
  · rw [if_neg c]; simp [c]
theorem all_map_true {α : Type} {l : List α} {g : α → Bool} (h : ∀ x ∈ l, g x = true) : (l.map g).all id = true := by
  rw [List.all_map, List.all_eq_true]
  exact fun x hx => h x hx
theorem is_place_ok {p : Pl} {m : Int} (h : 0 ≤ p.1 ∧ p.1 ≤ 9) (h2 : ∀ o ∈ p.2.l, 0 ≤ o ∧ o ≤ m - 1) (nd : p.2.l.Nodup) (hl : p.2.l.length < 64) : n_is_place (em p) m = .ok true := by
  simp only [n_is_place, O2.f, OC.f, O1.f, SeqN.f, Ix.f, Sl.f, Un2.f, Un3.f, ok_bind, ex_bind, bad_bind, bind_asc, bind_okr, upR_refl, up_refl, upR_ok, upR_ex, up_D, up_some, up_none, up_nilL, up_nilT, oR_some, optB_some, nxE_nx, nxE_ret, em_D, id_eq, if_true_eq, if_false_eq, decide_eq_true_eq, Bool.not_true, Bool.not_false, ite_true_b, ite_false_b, Bool.true_and, Bool.and_true]
  have e1 : boolOf (op1D (.isInst .tuple) (em p)) = .ok true := rfl
  have e2 : intOf (op1D .len (em p)) = .ok 2 := rfl
  have e3 : op2D .idx (em p) (.int 0) = .ok (.int p.1) := rfl
  have e4 : op2D .idx (em p) (.int 1) = .ok (em p.2) := rfl
  rw [e1, ok_bind, if_neg (by decide), e2, ok_bind, if_neg (by decide), e3, ok_bind, number_int, ok_bind, ok_bind, if_neg (by simp; omega), e4, ok_bind, isT, ok_bind, if_neg (by decide), seq_em, ok_bind, mapN_map, mapN_ok (e := fun x : Int => n_is_number (em x) 0 (m - 1)) (g := fun o : Int => decide (0 ≤ o ∧ o ≤ m - 1)) (fun o _ => number_int o _ _), ok_bind, all_map_true (fun o ho => decide_eq_true (h2 o ho)), ok_bind, if_neg (by decide)]
  have e5 : intOf (op1D .lenSet (em p.2)) = .ok (p.2.l.length : Int) := by
    show intOf (lenSetD (p.2.l.map em)) = _
    unfold lenSetD
    rw [intsD_em]
    dsimp only
    rw [if_pos hl]
    have : ∀ l : List Int, l.Nodup → dedupL l = l := fun l => by
      induction l with
      | nil => intro _; rfl
      | cons x l ih =>
        intro h
        obtain ⟨h1, h2⟩ := List.nodup_cons.mp h
        unfold dedupL
        rw [if_neg h1, ih h2]
    rw [this _ nd]
    rfl
  rw [e5, ok_bind, lenT, ok_bind]
  simp
theorem is_way_ok {w : Wy} {m z : Int} (h : 0 ≤ w.a ∧ w.a ≤ m - 1) (h2 : 0 ≤ w.b ∧ w.b ≤ z - 1) (h3 : 1 ≤ w.c ∧ w.c ≤ 9) : n_is_way (em w) m z = .ok true := by
  simp only [n_is_way, O2.f, OC.f, O1.f, SeqN.f, Ix.f, Sl.f, Un2.f, Un3.f, ok_bind, ex_bind, bad_bind, bind_asc, bind_okr, upR_refl, up_refl, upR_ok, upR_ex, up_D, up_some, up_none, up_nilL, up_nilT, oR_some, optB_some, nxE_nx, nxE_ret, em_D, id_eq, if_true_eq, if_false_eq, decide_eq_true_eq, Bool.not_true, Bool.not_false, ite_true_b, ite_false_b, Bool.true_and, Bool.and_true]
  have e1 : boolOf (op1D (.isInst .tuple) (em w)) = .ok true := rfl
  have e2 : intOf (op1D .len (em w)) = .ok 3 := rfl
  have e3 : op2D .idx (em w) (.int 0) = .ok (.int w.a) := rfl
  have e4 : op2D .idx (em w) (.int 1) = .ok (.int w.b) := rfl
  have e5 : op2D .idx (em w) (.int 2) = .ok (.int w.c) := rfl
  rw [e1, ok_bind, if_neg (by decide), e2, ok_bind, if_neg (by decide), e5, ok_bind, number_int, ok_bind, ok_bind, if_neg (by simp; omega), e3, ok_bind, number_int, ok_bind, if_pos (by simp; omega), e4, ok_bind, number_int]
  simp
  omega
theorem LeF_pair {a b : Int × Int} : LeF a b ↔ a.1 < b.1 ∨ a.1 = b.1 ∧ a.2 ≤ b.2 := by
  obtain ⟨a1, a2⟩ := a
  obtain ⟨b1, b2⟩ := b
  show lexLe [a1, a2] [b1, b2] = true ↔ _
  unfold lexLe lexLe lexLe
  by_cases c : a1 = b1
  · subst c
    rw [if_pos rfl]
    by_cases c2 : a2 = b2
    · subst c2; simp
    · rw [if_neg c2]; simp; omega
  · rw [if_neg c]; simp; omega
/-- all that the places of a side tell, as pairs -/
def prs (W : Wd) (s : Int) : List (Int × Int) := ((sd W s).zipIdx.map fun p => p.1.2.l.map fun o => if s = 0 then ((p.2 : Int), o) else (o, (p.2 : Int))).flatten
def pairsW (W : Wd) : List (Int × Int) := W.c.l.map fun w => (w.a, w.b)
section
variable {W : Wd} (h : WOk W)
include h
theorem pairs_sorted : (pairsW W).Pairwise LeF := by
  unfold pairsW
  rw [List.pairwise_map]
  exact h.srt.imp fun {a b} hab => LeF_pair.mpr (by rcases hab with c | c; exact .inl c; exact .inr ⟨c.1, by have := c.2; dsimp only; omega⟩)
theorem pairs_nodup : (pairsW W).Nodup := by
  unfold pairsW
  rw [List.nodup_iff_pairwise_ne, List.pairwise_map]
  exact h.srt.imp fun {a b} hab e => by
    have e1 := congrArg Prod.fst e
    have e2 := congrArg Prod.snd e
    simp only [] at e1 e2
    omega
theorem prs_perm {s : Int} (hs : Sid s) : (prs W s).Perm (pairsW W) := by
  refine (List.perm_ext_iff_of_nodup ?_ (pairs_nodup h)).mpr fun x => ?_
  · unfold prs
    rw [List.nodup_iff_pairwise_ne, List.pairwise_flatten]
    refine ⟨fun l hl => ?_, ?_⟩
    · obtain ⟨p, hp, rfl⟩ := List.mem_map.mp hl
      obtain ⟨k, hk⟩ := List.mem_iff_getElem?.mp hp
      rw [List.getElem?_zipIdx] at hk
      cases ho : (sd W s)[k]? with
      | none => rw [ho] at hk; cases hk
      | some q =>
        rw [ho] at hk
        have hk := Option.some.inj hk
        have hkl : k < (sd W s).length := (List.getElem?_eq_some_iff.mp ho).1
        have nd := likes_nodup h hs hkl
        have eq : pl W s k = q := Option.some.inj ((pl_get hkl).symm.trans ho)
        rw [eq] at nd
        rw [← hk, List.pairwise_map]
        refine nd.imp fun {a b} hab e => hab ?_
        dsimp only at e
        rcases hs with rfl | rfl
        · exact congrArg Prod.snd e
        · exact congrArg Prod.fst e
    · rw [List.pairwise_map]
      have : (sd W s).zipIdx.Pairwise fun a b => a.2 ≠ b.2 := by
        rw [List.pairwise_iff_getElem]
        intro i j hi hj hij
        simp
        omega
      refine this.imp fun {a b} hab x hx y hy exy => ?_
      subst exy
      obtain ⟨o, _, e1⟩ := List.mem_map.mp hx
      obtain ⟨o', _, e2⟩ := List.mem_map.mp hy
      rw [← e1] at e2
      rcases hs with rfl | rfl
      · have := congrArg Prod.fst e2
        simp only [if_pos] at this
        omega
      · have := congrArg Prod.snd e2
        simp at this
        omega
  · unfold prs pairsW
    rw [List.mem_flatten, List.mem_map]
    constructor
    · rintro ⟨l, hl, hx⟩
      obtain ⟨p, hp, rfl⟩ := List.mem_map.mp hl
      obtain ⟨o, ho, rfl⟩ := List.mem_map.mp hx
      obtain ⟨k, hk⟩ := List.mem_iff_getElem?.mp hp
      rw [List.getElem?_zipIdx] at hk
      cases hq : (sd W s)[k]? with
      | none => rw [hq] at hk; cases hk
      | some q =>
        rw [hq] at hk
        have hk := Option.some.inj hk
        have hkl : k < (sd W s).length := (List.getElem?_eq_some_iff.mp hq).1
        have eq : pl W s k = q := Option.some.inj ((pl_get hkl).symm.trans hq)
        rw [← hk] at ho ⊢
        rw [← eq] at ho
        obtain ⟨i, hi, he, rfl⟩ := (likes_mem h hs hkl).mp ho
        have hb := end_ok h hs hi
        refine ⟨wy W i, wy_mem hi, ?_⟩
        rcases hs with rfl | rfl
        · rw [if_pos rfl]; refine Prod.ext ?_ rfl
          show en (wy W i) 0 = ((0 + k : Nat) : Int); omega
        · rw [if_neg (by decide)]; refine Prod.ext rfl ?_
          show en (wy W i) 1 = ((0 + k : Nat) : Int); omega
    · rintro ⟨w, hw, rfl⟩
      obtain ⟨i, hi, rfl⟩ := wy_of_mem hw
      have hb := end_ok h hs hi
      refine ⟨_, List.mem_map.mpr ⟨(pl W s ((sdm W s).e i), (sdm W s).e i), List.mem_iff_getElem?.mpr ⟨(sdm W s).e i, by rw [List.getElem?_zipIdx, pl_get hb.2]; simp⟩, rfl⟩, List.mem_map.mpr ⟨en (wy W i) (1 - s), (likes_mem h hs hb.2).mpr ⟨i, hi, rfl, rfl⟩, ?_⟩⟩
      rcases hs with rfl | rfl
      · rw [if_pos rfl]; exact Prod.ext hb.1 rfl
      · rw [if_neg (by decide)]; exact Prod.ext rfl hb.1
theorem prs_length {s : Int} (hs : Sid s) : (prs W s).length ≤ 16 := by
  rw [(prs_perm h hs).length_eq]
  unfold pairsW
  rw [List.length_map]
  exact nw_le h hs
theorem pairs_ok : ∀ x ∈ pairsW W, (Fl.fl x).length = 2 ∧ ∀ i ∈ Fl.fl x, 0 ≤ i ∧ i < 64 := fun x hx => by
  obtain ⟨w, hw, rfl⟩ := List.mem_map.mp hx
  refine ⟨rfl, fun i hi => ?_⟩
  have h0 := (h.wy w hw).1 0 (.inl rfl)
  have h1 := (h.wy w hw).1 1 (.inr rfl)
  have l0 := h.len 0 (.inl rfl)
  have l1 := h.len 1 (.inr rfl)
  have e0 : en w 0 = w.a := rfl
  have e1 : en w 1 = w.b := rfl
  have hi : i = w.a ∨ i = w.b := by simpa [Fl.fl] using hi
  omega
/-- the loops that gather pairs -/
theorem gather {s : Int} (hs : Sid s) (t : Tp Pl) (ht : t.l = sd W s) (f : List D → Int × D → R (List D))
    (hf : ∀ (st : List D) (k : Int) (p : Pl), f st (k, em p) = extN st (p.2.l.map fun o => em (if s = 0 then (k, o) else (o, k)))) : forN (enumN (t.l.map em)) [] f = .ok ((prs W s).map em) := by
  have e : enumN (t.l.map em) = t.l.zipIdx.map fun p => ((p.2 : Int), em p.1) := by
    unfold enumN
    rw [List.zipIdx_map, List.map_map]
    rfl
  rw [e, forN_map]
  obtain ⟨st', h1, h2⟩ := forN_run (l := t.l.zipIdx) (st := ([] : List D)) (f := fun st (p : Pl × Nat) => f st ((p.2 : Int), em p.1))
    (fun d st => st = (d.map fun p => p.1.2.l.map fun o => em (if s = 0 then ((p.2 : Int), o) else (o, (p.2 : Int)))).flatten) rfl fun d x r st hd hI => by
      refine ⟨_, ?_, rfl⟩
      have hlen : (st ++ (x.1.2.l.map fun o => em (if s = 0 then ((x.2 : Int), o) else (o, (x.2 : Int))))).length ≤ (prs W s).length := by
        unfold prs
        rw [← ht, hd, hI, List.map_append, List.flatten_append, List.length_append, List.length_append]
        rw [List.map_cons, List.flatten_cons, List.length_append, List.length_map, List.length_map]
        have : (List.map (fun p : Pl × Nat => List.map (fun o => em (if s = 0 then ((p.2 : Int), o) else (o, (p.2 : Int)))) p.1.2.l) d).flatten.length = (List.map (fun p : Pl × Nat => List.map (fun o => if s = 0 then ((p.2 : Int), o) else (o, (p.2 : Int))) p.1.2.l) d).flatten.length := by
          rw [List.length_flatten, List.length_flatten, List.map_map, List.map_map]
          congr 1
          apply List.map_congr_left
          intro p _
          simp
        omega
      rw [hf, ext_ok (by rw [List.length_append] at hlen; have := prs_length h hs; omega), hI, List.map_append, List.flatten_append]
      simp
  rw [h1, h2]
  congr 1
  unfold prs
  rw [← ht, List.map_flatten, List.map_map]
  congr 1
  apply List.map_congr_left
  intro p _
  simp
theorem is_world_ok : n_is_world (em W) = .ok true := by
  have hl0 := h.len 0 (.inl rfl)
  have hl1 := h.len 1 (.inr rfl)
  have s0 : W.a.l = sd W 0 := rfl
  have s1 : W.b.l = sd W 1 := rfl
  have hn := nw_le h (.inl rfl : Sid 0)
  simp only [n_is_world, O2.f, OC.f, O1.f, SeqN.f, Ix.f, Sl.f, Un2.f, Un3.f, ok_bind, ex_bind, bad_bind, bind_asc, bind_okr, upR_refl, up_refl, upR_ok, upR_ex, up_D, up_some, up_none, up_nilL, up_nilT, oR_some, optB_some, nxE_nx, nxE_ret, em_D, id_eq, if_true_eq, if_false_eq, decide_eq_true_eq, Bool.not_true, Bool.not_false, ite_true_b, ite_false_b, Bool.true_and, Bool.and_true]
  have e1 : boolOf (op1D (.isInst .tuple) (em W)) = .ok true := rfl
  have e2 : intOf (op1D .len (em W)) = .ok 3 := rfl
  have e3 : op2D .idx (em W) (.int 0) = .ok (em W.a) := rfl
  have e4 : op2D .idx (em W) (.int 1) = .ok (em W.b) := rfl
  rw [e1, ok_bind, if_neg (by decide), e2, ok_bind, if_neg (by decide), e3, ok_bind, are_places_ok, ok_bind, if_neg (by rw [s0]; simp; omega), e4, ok_bind, are_places_ok, ok_bind, ok_bind, if_neg (by rw [s1]; simp; omega)]
  have e5 : oR (un3D (em W)) = .ok (T3.mk (em W.a) (em W.b) (em W.c)) := rfl
  rw [e5, ok_bind]
  have pls : ∀ s, Sid s → ∀ p ∈ sd W s, n_is_place (em p) ((sd W (1 - s)).length : Int) = .ok true := fun s hs p hp => by
    obtain ⟨k, hk, rfl⟩ := List.mem_iff_getElem.mp hp
    have hk' := pl_get (W := W) (s := s) hk
    rw [List.getElem?_eq_getElem hk] at hk'
    have hk' := Option.some.inj hk'
    rw [hk']
    refine is_place_ok (h.amt s hs _ (pl_mem hk)) (fun o ho => ?_) (likes_nodup h hs hk) ?_
    · obtain ⟨i, hi, he, rfl⟩ := (likes_mem h hs hk).mp ho
      have := (h.wy _ (wy_mem hi)).1 (1 - s) hs.flip
      omega
    · have := (h.lk s hs k _ (pl_get hk)).length_eq
      rw [List.length_map] at this
      have := List.length_filter_le (fun w => decide (en w s = (k : Int))) W.c.l
      unfold nw at hn
      omega
  simp only []
  rw [seq_em, ok_bind, mapN_map, mapN_ok (e := fun x : Pl => intOf (op1D .len (em W.b)) >>= fun q16 => n_is_place (em x) q16) (g := fun _ => true) (fun p hp => by rw [lenT, ok_bind]; exact pls 0 (.inl rfl) p hp), ok_bind, all_map_true (fun _ _ => rfl), if_neg (by decide)]
  rw [seq_em, ok_bind, mapN_map, mapN_ok (e := fun x : Pl => intOf (op1D .len (em W.a)) >>= fun q16 => n_is_place (em x) q16) (g := fun _ => true) (fun p hp => by rw [lenT, ok_bind]; exact pls 1 (.inr rfl) p hp), ok_bind, all_map_true (fun _ _ => rfl), if_neg (by decide)]
  rw [isT, ok_bind, if_neg (by decide), seq_em, ok_bind, mapN_map, mapN_ok (e := fun x : Wy => intOf (op1D .len (em W.a)) >>= fun q29 => intOf (op1D .len (em W.b)) >>= fun q30 => n_is_way (em x) q29 q30) (g := fun _ => true) (fun w hw => by
    rw [lenT, ok_bind, lenT, ok_bind]
    have a0 := (h.wy w hw).1 0 (.inl rfl)
    have a1 := (h.wy w hw).1 1 (.inr rfl)
    have q0 : en w 0 = w.a := rfl
    have q1 : en w 1 = w.b := rfl
    rw [s0, s1]
    exact is_way_ok (by omega) (by omega) (h.wy w hw).2), ok_bind, all_map_true (fun _ _ => rfl), ok_bind, if_neg (by decide), ok_bind]
  rw [mapN_map, mapN_ok (e := fun x : Wy => op2D .to (em x) (.int 2)) (g := fun w : Wy => em (w.a, w.b)) (fun w _ => rfl), ok_bind]
  have e6 : (W.c.l.map fun w : Wy => em (w.a, w.b)) = (pairsW W).map em := by unfold pairsW; rw [List.map_map]; rfl
  have pl64 : (pairsW W).length < 64 := by unfold pairsW; rw [List.length_map]; unfold nw at hn; omega
  rw [e6, sortSetD_ok 2 (by decide) pl64 (pairs_ok h), dedup_self (pairs_nodup h), sortF_eq (.refl _) (pairs_sorted h)]
  have e7 : SF.listOf (R.ok (PyData.list ((pairsW W).map em))) = .ok ((pairsW W).map em) := rfl
  have e8 : neDN (PyData.list ((pairsW W).map em)) (PyData.list ((pairsW W).map em)) = .ok false := by
    have := neDN_em (pairsW W) (pairsW W)
    rw [decide_eq_true rfl] at this
    exact this
  have e9 : eqDN (PyData.list ((pairsW W).map em)) (PyData.list ((pairsW W).map em)) = .ok true := by
    have := eqDN_em (pairsW W) (pairsW W)
    rw [decide_eq_true rfl] at this
    exact this
  rw [e7, ok_bind, e8, ok_bind, if_neg (by decide)]
  have prok : ∀ s, Sid s → ∀ x ∈ prs W s, (Fl.fl x).length = 2 ∧ ∀ i ∈ Fl.fl x, 0 ≤ i ∧ i < 64 := fun s hs x hx => pairs_ok h x ((prs_perm h hs).mem_iff.mp hx)
  have pr64 : ∀ s, Sid s → (prs W s).length < 64 := fun s hs => by have := prs_length h hs; omega
  rw [ok_bind, gather h (.inl rfl : Sid 0) W.a rfl, ok_bind, ok_bind, gather h (.inr rfl : Sid 1) W.b rfl, ok_bind]
  · rw [sortD_ok 2 (by decide) (pr64 0 (.inl rfl)) (prok 0 (.inl rfl)) (prs_perm h (.inl rfl)) (pairs_sorted h), e7, ok_bind, e9, ok_bind, if_pos rfl]
    rw [sortD_ok 2 (by decide) (pr64 1 (.inr rfl)) (prok 1 (.inr rfl)) (prs_perm h (.inr rfl)) (pairs_sorted h), e7, ok_bind, e9]
  · intro st k p
    have e : op2D .idx (em p) (.int 1) = .ok (em p.2) := rfl
    simp only []
    rw [e, ok_bind, seq_em, ok_bind, mapN_map, mapN_ok (g := fun o : Int => ((em o : D), k)) (fun _ _ => rfl), upR_ok, ok_bind]
    congr 1
    show List.map _ (List.map _ p.2.l) = _
    rw [List.map_map]
    rfl
  · intro st k p
    have e : op2D .idx (em p) (.int 1) = .ok (em p.2) := rfl
    simp only []
    rw [e, ok_bind, seq_em, ok_bind, mapN_map, mapN_ok (g := fun o : Int => (k, (em o : D))) (fun _ _ => rfl), upR_ok, ok_bind]
    congr 1
    show List.map _ (List.map _ p.2.l) = _
    rw [List.map_map]
    rfl
end
theorem need_world_ok {W : Wd} (h : WOk W) : n_need_world (em W) = .ok () := by
  simp only [n_need_world, O2.f, OC.f, O1.f, SeqN.f, Ix.f, Sl.f, Un2.f, Un3.f, ok_bind, ex_bind, bad_bind, bind_asc, bind_okr, upR_refl, up_refl, upR_ok, upR_ex, up_D, up_some, up_none, up_nilL, up_nilT, oR_some, optB_some, nxE_nx, nxE_ret, em_D, id_eq, if_true_eq, if_false_eq, decide_eq_true_eq, Bool.not_true, Bool.not_false, ite_true_b, ite_false_b, Bool.true_and, Bool.and_true, is_world_ok h]
end Lw

/-! Steps. -/
namespace SF
open SF.Em (em)
open SF.Up (up)
theorem toL_nat {α : Type} (l : List α) (n : Nat) : toL l (n : Int) = l.take n := by
  unfold toL cutIx
  rw [if_neg (by omega), Int.toNat_natCast]
  by_cases h : n ≤ l.length
  · rw [Nat.min_eq_left h]
  · rw [Nat.min_eq_right (by omega), List.take_length, List.take_of_length_le (by omega)]
theorem fromL_nat {α : Type} (l : List α) (n : Nat) : fromL l (n : Int) = l.drop n := by
  unfold fromL cutIx
  rw [if_neg (by omega), Int.toNat_natCast]
  by_cases h : n ≤ l.length
  · rw [Nat.min_eq_left h]
  · rw [Nat.min_eq_right (by omega), List.drop_length, List.drop_of_length_le (by omega)]
theorem set_parts {α : Type} {l : List α} {n : Nat} (h : n < l.length) (x : α) : l.take n ++ [x] ++ l.drop (n + 1) = l.set n x := by
  rw [List.set_eq_take_append_cons_drop, if_pos h]
  simp
/-- a while whose measure falls -/
theorem whileN_run {σ : Type} {c : σ → R Bool} {f : σ → R σ} (I : σ → Prop) (μ : σ → Nat) (b : σ → Bool) (hc : ∀ st, I st → c st = .ok (b st)) (hf : ∀ st, I st → b st = true → ∃ st', f st = .ok st' ∧ I st' ∧ μ st' < μ st) :
    ∀ (n : Nat) (st : σ), μ st < n → I st → ∃ st', whileN n st c f = .ok st' ∧ I st' ∧ b st' = false
  | 0, _, h, _ => by omega
  | n + 1, st, h, hI => by
    unfold whileN
    rw [hc st hI, ok_bind]
    cases hb : b st with
    | false => exact ⟨st, rfl, hI, hb⟩
    | true =>
      obtain ⟨s1, h1, h2, h3⟩ := hf st hI hb
      rw [if_pos rfl, h1, ok_bind]
      exact whileN_run I μ b hc hf n s1 (by omega) h2
theorem whileX_run {σ ρ : Type} {c : σ → R Bool} {f : σ → R (Nx σ ρ)} (I : σ → Prop) (μ : σ → Nat) (b : σ → Bool) (hc : ∀ st, I st → c st = .ok (b st)) (hf : ∀ st, I st → b st = true → ∃ st', f st = .ok (.nx st') ∧ I st' ∧ μ st' < μ st) :
    ∀ (n : Nat) (st : σ), μ st < n → I st → ∃ st', whileX n st c f = .ok (.nx st') ∧ I st' ∧ b st' = false
  | 0, _, h, _ => by omega
  | n + 1, st, h, hI => by
    unfold whileX
    rw [hc st hI, ok_bind]
    cases hb : b st with
    | false => exact ⟨st, rfl, hI, hb⟩
    | true =>
      obtain ⟨s1, h1, h2, h3⟩ := hf st hI hb
      rw [if_pos rfl, h1, ok_bind]
      exact whileX_run I μ b hc hf n s1 (by omega) h2
theorem whileN_bind {σ τ : Type} {c : σ → R Bool} {f : σ → R σ} {n : Nat} {st : σ} {k : σ → R τ} {r : R τ} (I : σ → Prop) (μ : σ → Nat) (b : σ → Bool) (hn : μ st < n) (h0 : I st) (hc : ∀ st, I st → c st = .ok (b st)) (hf : ∀ st, I st → b st = true → ∃ st', f st = .ok st' ∧ I st' ∧ μ st' < μ st) (hk : ∀ st', I st' → b st' = false → k st' = r) : (whileN n st c f >>= k) = r := by
  obtain ⟨st', h1, h2, h3⟩ := whileN_run I μ b hc hf n st hn h0
  rw [h1, ok_bind]
  exact hk st' h2 h3
theorem whileX_bind {σ ρ τ : Type} {c : σ → R Bool} {f : σ → R (Nx σ ρ)} {n : Nat} {st : σ} {k : Nx σ ρ → R τ} {r : R τ} (I : σ → Prop) (μ : σ → Nat) (b : σ → Bool) (hn : μ st < n) (h0 : I st) (hc : ∀ st, I st → c st = .ok (b st)) (hf : ∀ st, I st → b st = true → ∃ st', f st = .ok (.nx st') ∧ I st' ∧ μ st' < μ st) (hk : ∀ st', I st' → b st' = false → k (.nx st') = r) : (whileX n st c f >>= k) = r := by
  obtain ⟨st', h1, h2, h3⟩ := whileX_run I μ b hc hf n st hn h0
  rw [h1, ok_bind]
  exact hk st' h2 h3
end SF
namespace Lw
open SF.Em (em)
open SF.Up (up)
open PySem SF Mt
section
variable {W : Wd}
theorem Ch_congr {s : Int} {f g : Nat → Int} (h : ∀ i, i < nw W → f i = g i) {i : Nat} (hi : i < nw W) : Ch W s f i = Ch W s g i := by
  unfold Ch C
  have e := S_congr (n := nw W) (d := sdm W s) (x := fun j => min (f j) (wlim W j)) (y := fun j => min (g j) (wlim W j)) (fun j hj => by rw [h j hj]) i
  rw [e, h i hi]
theorem Ch_tab {s : Int} (f : Nat → Int) {i : Nat} (hi : i < nw W) : Ch W s (val (tab (nw W) f)) i = Ch W s f i := Ch_congr (fun j hj => val_tab hj) hi
theorem Ch_le (h : WOk W) {s : Int} (hs : Sid s) {o : Nat → Int} (ho : ∀ j, j < nw W → 0 ≤ o j) {i : Nat} (hi : i < nw W) : 0 ≤ Ch W s o i ∧ Ch W s o i ≤ o i ∧ Ch W s o i ≤ wlim W i := by
  have := C_le (o := o) (lim := wlim W) (sdm_ok h hs) ho (fun j hj => by have := lim_ok h hj; omega) hi
  unfold Ch
  omega
/-- the first way on which more is offered than is taken -/
def refW (W : Wd) (o : Nat → Int) : Option Nat := (List.range (nw W)).find? fun i => decide (Ch W 1 (Ch W 0 o) i < Ch W 0 o i)
def refM (W : Wd) (caps : List Int) : Option (Int × Int) := (refW W (val caps)).map fun i : Nat => ((i : Int), Ch W 1 (Ch W 0 (val caps)) i)
def lims (W : Wd) : List Int := tab (nw W) (wlim W)
def low (caps : List Int) (r : Int × Int) : List Int := caps.set r.1.toNat r.2
def capL (caps : List Int) (rows : List (Int × Int)) : List Int := rows.foldl low caps
/-- rows of numbers that can be caps -/
structure COk (W : Wd) (caps : List Int) : Prop where
  l : caps.length = nw W
  r : ∀ i, i < nw W → 0 ≤ val caps i
theorem lims_ok (h : WOk W) : COk W (lims W) := ⟨by unfold lims; simp, fun i hi => by unfold lims; rw [val_tab hi]; have := lim_ok h hi; omega⟩
theorem limits_ok : n_limits W = .ok ⟨lims W⟩ := by
  simp only [n_limits, O2.f, OC.f, O1.f, SeqN.f, Ix.f, Sl.f, Un2.f, Un3.f, ok_bind, ex_bind, bad_bind, bind_asc, bind_okr, upR_refl, up_refl, upR_ok, upR_ex, up_D, up_some, up_none, up_nilL, up_nilT, oR_some, optB_some, nxE_nx, nxE_ret, em_D, id_eq, if_true_eq, if_false_eq, decide_eq_true_eq, Bool.not_true, Bool.not_false, ite_true_b, ite_false_b, Bool.true_and, Bool.and_true]
  rw [mapN_ok (g := fun w : Wy => w.c) fun _ _ => rfl]
  show R.ok (⟨_⟩ : Tp Int) = _
  congr 2
  apply List.ext_getElem?
  intro i
  unfold lims
  by_cases hi : i < nw W
  · rw [tab_get hi, List.getElem?_map, wy_get hi]; rfl
  · rw [List.getElem?_eq_none (by simp; unfold nw at hi; omega), List.getElem?_eq_none (by simp; omega)]
theorem refused_ok (h : WOk W) {caps : List Int} (hc : COk W caps) : n_refused W ⟨caps⟩ = .ok (refM W caps) := by
  have n16 := nw_le h (.inl rfl : Sid 0)
  have ho : ∀ j, j < nw W → 0 ≤ val (tab (nw W) (Ch W 0 (val caps))) j := fun j hj => by rw [val_tab hj]; exact (Ch_le h (.inl rfl) hc.r hj).1
  simp only [n_refused, O2.f, OC.f, O1.f, SeqN.f, Ix.f, Sl.f, Un2.f, Un3.f, ok_bind, ex_bind, bad_bind, bind_asc, bind_okr, upR_refl, up_refl, upR_ok, upR_ex, up_D, up_some, up_none, up_nilL, up_nilT, oR_some, optB_some, nxE_nx, nxE_ret, em_D, id_eq, if_true_eq, if_false_eq, decide_eq_true_eq, Bool.not_true, Bool.not_false, ite_true_b, ite_false_b, Bool.true_and, Bool.and_true]
  rw [both_ends_ok h (.inl rfl) hc.l hc.r, ok_bind, both_ends_ok h (.inr rfl) (by simp) ho, ok_bind]
  rw [show ((W.c.l.length : Nat) : Int) = (nw W : Int) from rfl, range_ok (by omega), ok_bind, forX_map]
  rw [forX_find (P := fun i => decide (Ch W 1 (Ch W 0 (val caps)) i < Ch W 0 (val caps) i)) (r := fun i : Nat => some ((i : Int), Ch W 1 (Ch W 0 (val caps)) i))]
  · rw [ok_bind]
    unfold refM refW
    cases List.find? (fun i => decide (Ch W 1 (Ch W 0 (val caps)) i < Ch W 0 (val caps) i)) (List.range (nw W)) <;> rfl
  · intro i hi
    have hi := List.mem_range.mp hi
    have e1 := at_val (l := tab (nw W) (Ch W 1 (val (tab (nw W) (Ch W 0 (val caps)))))) (n := i) (by simpa using hi)
    have e2 := at_val (l := tab (nw W) (Ch W 0 (val caps))) (n := i) (by simpa using hi)
    rw [val_tab hi, Ch_tab _ hi] at e1
    rw [val_tab hi] at e2
    rw [e1, ok_bind, e2, ok_bind, ok_bind]
    by_cases c : Ch W 1 (Ch W 0 (val caps)) i < Ch W 0 (val caps) i
    · rw [if_pos c, if_pos (decide_eq_true c)]; rfl
    · rw [if_neg c, if_neg (fun z => c (of_decide_eq_true z))]
theorem refM_some (h : WOk W) {caps : List Int} (hc : COk W caps) {r : Int × Int} (hr : refM W caps = some r) : ∃ i, i < nw W ∧ r = ((i : Int), Ch W 1 (Ch W 0 (val caps)) i) ∧ Ch W 1 (Ch W 0 (val caps)) i < Ch W 0 (val caps) i ∧ 0 ≤ r.2 ∧ r.2 < val caps i := by
  unfold refM refW at hr
  cases hf : (List.range (nw W)).find? (fun i => decide (Ch W 1 (Ch W 0 (val caps)) i < Ch W 0 (val caps) i)) with
  | none => rw [hf] at hr; cases hr
  | some i =>
    rw [hf] at hr
    have hr := Option.some.inj hr
    have h1 := List.find?_some hf
    have h2 := List.mem_range.mp (List.mem_of_find?_eq_some hf)
    have h1 := of_decide_eq_true h1
    have c0 := Ch_le h (.inl rfl : Sid 0) hc.r h2
    have c1 := Ch_le h (.inr rfl : Sid 1) (fun j hj => (Ch_le h (.inl rfl : Sid 0) hc.r hj).1) h2
    refine ⟨i, h2, hr.symm, h1, ?_⟩
    rw [← hr]
    dsimp only
    omega
theorem refM_none {caps : List Int} (hr : refM W caps = none) : ∀ i, i < nw W → Ch W 0 (val caps) i ≤ Ch W 1 (Ch W 0 (val caps)) i := fun i hi => by
  unfold refM refW at hr
  have := List.find?_eq_none.mp (Option.map_eq_none_iff.mp hr) i (List.mem_range.mpr hi)
  simpa using this
theorem low_ok {caps : List Int} (hc : COk W caps) {i : Nat} (hi : i < nw W) {c : Int} (h0 : 0 ≤ c) : COk W (low caps ((i : Int), c)) ∧ low caps ((i : Int), c) = caps.set i c := by
  refine ⟨⟨?_, fun j hj => ?_⟩, ?_⟩
  · unfold low; rw [List.length_set]; exact hc.l
  · unfold low val
    rw [List.getD_eq_getElem?_getD, List.getElem?_set]
    dsimp only
    rw [Int.toNat_natCast]
    by_cases e : i = j
    · subst e; rw [if_pos rfl, if_pos (by have := hc.l; omega)]; exact h0
    · rw [if_neg e, ← List.getD_eq_getElem?_getD]; exact hc.r j hj
  · unfold low; rw [Int.toNat_natCast]
theorem val_low {caps : List Int} (hc : COk W caps) {i : Nat} (hi : i < nw W) {c : Int} (j : Nat) : val (low caps ((i : Int), c)) j = if j = i then c else val caps j := by
  unfold low val
  rw [List.getD_eq_getElem?_getD, List.getElem?_set]
  dsimp only
  rw [Int.toNat_natCast]
  by_cases e : i = j
  · subst e; rw [if_pos rfl, if_pos (by have := hc.l; omega), if_pos rfl]; rfl
  · rw [if_neg e, if_neg (fun z => e z.symm), ← List.getD_eq_getElem?_getD]
theorem lowered_ok {caps : List Int} (hl : caps.length ≤ 1000) {i : Nat} (hi : i < caps.length) (c : Int) : n_lowered ⟨caps⟩ (i : Int) c = .ok ⟨low caps ((i : Int), c)⟩ := by
  simp only [n_lowered, O2.f, OC.f, O1.f, SeqN.f, Ix.f, Sl.f, Un2.f, Un3.f, ok_bind, ex_bind, bad_bind, bind_asc, bind_okr, upR_refl, up_refl, upR_ok, upR_ex, up_D, up_some, up_none, up_nilL, up_nilT, oR_some, optB_some, nxE_nx, nxE_ret, em_D, id_eq, if_true_eq, if_false_eq, decide_eq_true_eq, Bool.not_true, Bool.not_false, ite_true_b, ite_false_b, Bool.true_and, Bool.and_true]
  rw [addT_ok (by dsimp only; rw [toL_nat, List.length_take]; simp; omega), ok_bind, addT_ok (by
    dsimp only
    rw [toL_nat, show ((i : Int) + 1) = ((i + 1 : Nat) : Int) by omega, fromL_nat, List.length_append, List.length_take, List.length_drop]
    simp; omega)]
  dsimp only
  rw [toL_nat, show ((i : Int) + 1) = ((i + 1 : Nat) : Int) by omega, fromL_nat, set_parts hi]
  unfold low
  rw [Int.toNat_natCast]
def sumL (caps : List Int) : Int := sm caps.length (val caps)
theorem sm_set {n k : Nat} {f g : Nat → Int} (hk : k < n) (h : ∀ j, j < n → j ≠ k → g j = f j) : sm n g = sm n f + (g k - f k) := by
  have : sm n g = sm n fun j => f j + (if j = k then g k - f k else 0) := sm_congr fun j hj => by
    by_cases c : j = k
    · subst c; rw [if_pos rfl]; omega
    · rw [if_neg c, h j hj c]; omega
  rw [this, sm_add, sm_one hk]
theorem sumL_low {caps : List Int} (hc : COk W caps) {i : Nat} (hi : i < nw W) {c : Int} : sumL (low caps ((i : Int), c)) = sumL caps + (c - val caps i) := by
  unfold sumL
  have e : (low caps ((i : Int), c)).length = caps.length := by unfold low; rw [List.length_set]
  rw [e, sm_set (k := i) (f := val caps) (g := val (low caps ((i : Int), c))) (by have := hc.l; omega) (fun j _ hj => by rw [val_low hc hi, if_neg hj]), val_low hc hi, if_pos rfl]
theorem sumL_nonneg {caps : List Int} (hc : COk W caps) : 0 ≤ sumL caps := sm_nonneg fun i hi => hc.r i (by have := hc.l; omega)
/-- all steps -/
def stepsM (W : Wd) : Nat → List Int → List (Int × Int)
  | 0, _ => []
  | n + 1, caps => match refM W caps with
    | none => []
    | some r => r :: stepsM W n (low caps r)
theorem refM_low (h : WOk W) {caps : List Int} (hc : COk W caps) {r : Int × Int} (hr : refM W caps = some r) : COk W (low caps r) ∧ sumL (low caps r) < sumL caps := by
  obtain ⟨i, hi, rfl, h1, h2, h3⟩ := refM_some h hc hr
  refine ⟨(low_ok hc hi h2).1, ?_⟩
  rw [sumL_low hc hi]
  dsimp only at h3
  omega
theorem stepsM_end (h : WOk W) : ∀ (n : Nat) (caps : List Int), COk W caps → sumL caps < n → refM W (capL caps (stepsM W n caps)) = none ∧ COk W (capL caps (stepsM W n caps)) ∧ (stepsM W n caps).length ≤ sumL caps
  | 0, caps, hc, hn => by have := sumL_nonneg hc; omega
  | n + 1, caps, hc, hn => by
    unfold stepsM
    cases hr : refM W caps with
    | none => exact ⟨hr, hc, sumL_nonneg hc⟩
    | some r =>
      obtain ⟨h1, h2⟩ := refM_low h hc hr
      obtain ⟨g1, g2, g3⟩ := stepsM_end h n (low caps r) h1 (by omega)
      exact ⟨g1, g2, by simp only [List.length_cons]; omega⟩
theorem lims_sum (h : WOk W) : sumL (lims W) ≤ 144 := by
  have n16 := nw_le h (.inl rfl : Sid 0)
  unfold sumL
  have l : (lims W).length = nw W := by unfold lims; simp
  rw [l]
  have : ∀ n, n ≤ nw W → sm n (val (lims W)) ≤ 9 * n := fun n => by
    induction n with
    | zero => intro _; show (0 : Int) ≤ _; omega
    | succ n ih =>
      intro hn
      have := ih (by omega)
      have h2 : val (lims W) n ≤ 9 := by unfold lims; rw [val_tab (by omega)]; exact (lim_ok h (show n < nw W by omega)).2
      show sm n _ + _ ≤ _
      omega
  have := this (nw W) (Nat.le_refl _)
  omega
theorem whileN_congr {σ : Type} {c c' : σ → R Bool} {f f' : σ → R σ} {n : Nat} {s : σ} (h1 : c = c') (h2 : f = f') : whileN n s c f = whileN n s c' f' := by rw [h1, h2]
theorem steps_ok (h : WOk W) : n_steps W = .ok (stepsM W 10000 (lims W)) := by
  have n16 := nw_le h (.inl rfl : Sid 0)
  simp only [n_steps, O2.f, OC.f, O1.f, SeqN.f, Ix.f, Sl.f, Un2.f, Un3.f, ok_bind, ex_bind, bad_bind, bind_asc, bind_okr, upR_refl, up_refl, upR_ok, upR_ex, up_D, up_some, up_none, up_nilL, up_nilT, oR_some, optB_some, nxE_nx, nxE_ret, em_D, id_eq, if_true_eq, if_false_eq, decide_eq_true_eq, Bool.not_true, Bool.not_false, ite_true_b, ite_false_b, Bool.true_and, Bool.and_true]
  rw [limits_ok, ok_bind, refused_ok h (lims_ok h), ok_bind]
  generalize hf : (fun (st4 : List (Int × Int) × Tp Int × Option (Int × Int)) => oR st4.2.2 >>= fun q7 => appN st4.1 q7 >>= fun v_found => optB st4.2.2 (fun x => R.ok x.1) >>= fun x => optB st4.2.2 (fun x => R.ok x.2) >>= fun x_1 => n_lowered st4.2.1 x x_1 >>= fun v_caps => n_refused W v_caps >>= fun v_told => R.ok (v_found, v_caps, v_told)) = f
  have key : ∀ (n : Nat) (caps : List Int) (found : List (Int × Int)), COk W caps → sumL caps < n → found.length + sumL caps ≤ 1000 →
      whileN n (found, (⟨caps⟩ : Tp Int), refM W caps) (fun st4 => R.ok st4.2.2.isSome) f = .ok (found ++ stepsM W n caps, ⟨capL caps (stepsM W n caps)⟩, none) := fun n => by
    induction n with
    | zero => intro caps _ hc hn _; have := sumL_nonneg hc; omega
    | succ n ih =>
      intro caps found hc hn hl
      unfold whileN stepsM
      rw [ok_bind]
      cases hr : refM W caps with
      | none => rw [List.append_nil]; rfl
      | some r =>
        obtain ⟨h1, h2⟩ := refM_low h hc hr
        obtain ⟨i, hi, he, h3, h4, h5⟩ := refM_some h hc hr
        have h0 := sumL_nonneg hc
        have e : f (found, (⟨caps⟩ : Tp Int), some r) = .ok (found ++ [r], ⟨low caps r⟩, refM W (low caps r)) := by
          rw [← hf]
          simp only [O2.f, OC.f, O1.f, SeqN.f, Ix.f, Sl.f, Un2.f, Un3.f, ok_bind, ex_bind, bad_bind, bind_asc, bind_okr, upR_refl, up_refl, upR_ok, upR_ex, up_D, up_some, up_none, up_nilL, up_nilT, oR_some, optB_some, nxE_nx, nxE_ret, em_D, id_eq, if_true_eq, if_false_eq, decide_eq_true_eq, Bool.not_true, Bool.not_false, ite_true_b, ite_false_b, Bool.true_and, Bool.and_true]
          rw [app_ok (by omega), ok_bind, he, lowered_ok (by have := hc.l; omega) (by have := hc.l; omega), ok_bind, ← he, refused_ok h h1, ok_bind]
        show (if true = true then f (found, (⟨caps⟩ : Tp Int), some r) >>= fun s' => whileN n s' (fun st4 => R.ok st4.2.2.isSome) f else _) = _
        rw [if_pos rfl, e, ok_bind, ih (low caps r) (found ++ [r]) h1 (by omega) (by simp; omega)]
        rw [List.append_assoc]
        rfl
  have hs := lims_sum h
  rw [key 10000 (lims W) [] (lims_ok h) (by omega) (by simp; omega)]
  rfl
theorem capped_ok {rows : List (Int × Int)} (hr : ∀ r ∈ rows, ∃ i : Nat, i < nw W ∧ r.1 = i) (hn : nw W ≤ 1000) : n_capped W rows = .ok ⟨capL (lims W) rows⟩ := by
  simp only [n_capped, O2.f, OC.f, O1.f, SeqN.f, Ix.f, Sl.f, Un2.f, Un3.f, ok_bind, ex_bind, bad_bind, bind_asc, bind_okr, upR_refl, up_refl, upR_ok, upR_ex, up_D, up_some, up_none, up_nilL, up_nilT, oR_some, optB_some, nxE_nx, nxE_ret, em_D, id_eq, if_true_eq, if_false_eq, decide_eq_true_eq, Bool.not_true, Bool.not_false, ite_true_b, ite_false_b, Bool.true_and, Bool.and_true]
  rw [limits_ok, ok_bind]
  have key : ∀ (rows : List (Int × Int)) (caps : List Int), caps.length = nw W → (∀ r ∈ rows, ∃ i : Nat, i < nw W ∧ r.1 = i) → forN rows (⟨caps⟩ : Tp Int) (fun st2 p5 => n_lowered st2 p5.1 p5.2) = .ok ⟨capL caps rows⟩ := fun rows => by
    induction rows with
    | nil => intro caps _ _; rfl
    | cons r rows ih =>
      intro caps hl hr
      obtain ⟨i, hi, he⟩ := hr r List.mem_cons_self
      have e : r = ((i : Int), r.2) := Prod.ext he rfl
      unfold forN
      rw [he, lowered_ok (by omega) (by omega), ok_bind, ← e]
      exact ih (low caps r) (by unfold low; rw [List.length_set]; exact hl) fun q hq => hr q (List.mem_cons_of_mem _ hq)
  exact key rows (lims W) (by unfold lims; simp) hr
theorem stepsM_rows (h : WOk W) : ∀ (n : Nat) (caps : List Int), COk W caps → ∀ r ∈ stepsM W n caps, ∃ i : Nat, i < nw W ∧ r.1 = i
  | 0, _, _, r, hr => by cases hr
  | n + 1, caps, hc, r, hr => by
    unfold stepsM at hr
    cases he : refM W caps with
    | none => rw [he] at hr; cases hr
    | some q =>
      rw [he] at hr
      rcases List.mem_cons.mp hr with rfl | hr
      · obtain ⟨i, hi, e, _⟩ := refM_some h hc he
        exact ⟨i, hi, by rw [e]⟩
      · exact stepsM_rows h n _ (refM_low h hc he).1 r hr
/-- the caps behind all steps; the givers' best plan -/
def endC (W : Wd) : List Int := capL (lims W) (stepsM W 10000 (lims W))
def best (W : Wd) : List Int := tab (nw W) (Ch W 0 (val (endC W)))
theorem endC_ok (h : WOk W) : refM W (endC W) = none ∧ COk W (endC W) := by
  have hs := lims_sum h
  have := stepsM_end h 10000 (lims W) (lims_ok h) (by omega)
  exact ⟨this.1, this.2.1⟩
theorem givers_best_ok (h : WOk W) : n_givers_best W = .ok ⟨best W⟩ := by
  have n16 := nw_le h (.inl rfl : Sid 0)
  have he := endC_ok h
  simp only [n_givers_best, O2.f, OC.f, O1.f, SeqN.f, Ix.f, Sl.f, Un2.f, Un3.f, ok_bind, ex_bind, bad_bind, bind_asc, bind_okr, upR_refl, up_refl, upR_ok, upR_ex, up_D, up_some, up_none, up_nilL, up_nilT, oR_some, optB_some, nxE_nx, nxE_ret, em_D, id_eq, if_true_eq, if_false_eq, decide_eq_true_eq, Bool.not_true, Bool.not_false, ite_true_b, ite_false_b, Bool.true_and, Bool.and_true]
  rw [need_world_ok h, ok_bind, steps_ok h, ok_bind, capped_ok (stepsM_rows h _ _ (lims_ok h)) (by omega), ok_bind]
  exact both_ends_ok h (.inl rfl) he.2.l he.2.r
end
end Lw

/-! The laws' own choice. -/
namespace Lw
open SF.Em (em)
open SF.Up (up)
open PySem SF Mt
section
variable {W : Wd} (h : WOk W) {s : Int} (hs : Sid s)
include h hs
theorem l_choice_ok {p : Nat} (hp : p < (sd W s).length) {off : List Int} (hl : off.length = nw W) (ho : ∀ j, j < nw W → 0 ≤ val off j) :
    n__law_choice W s p ⟨off⟩ = .ok ⟨tab (nw W) fun j => if (sdm W s).e j = p then Ch W s (val off) j else 0⟩ := by
  have n16 := nw_le h hs
  rw [← chosen_ok h hs hp hl ho]
  obtain ⟨t, e1, e2⟩ := side_ok (W := W) hs
  have e3 := at_getD (l := t.l) (n := p) (by rw [e2]; exact hp) (0, ⟨[]⟩)
  have e4 : t.l.getD p (0, ⟨[]⟩) = pl W s p := by rw [e2]; rfl
  rw [e4] at e3
  have e5 := rep_ok (n := nw W) (by omega) (0 : Int)
  simp only [n__law_choice, n_chosen, O2.f, OC.f, O1.f, SeqN.f, Ix.f, Sl.f, Un2.f, Un3.f, ok_bind, ex_bind, bad_bind, bind_asc, bind_okr, upR_refl, up_refl, upR_ok, upR_ex, up_D, up_some, up_none, up_nilL, up_nilT, oR_some, optB_some, nxE_nx, nxE_ret, em_D, id_eq, if_true_eq, if_false_eq, decide_eq_true_eq, Bool.not_true, Bool.not_false, ite_true_b, ite_false_b, Bool.true_and, Bool.and_true, e1, e3]
  rw [show ((W.c.l.length : Nat) : Int) = (nw W : Int) from rfl, hl, e5, ok_bind, ok_bind, ways_liked_ok h hs hp, ok_bind, forN_map]
  unfold liked
  rw [forN_map]
  congr 1
  have key : ∀ (os : List Int), (∀ o ∈ os, o ∈ (pl W s p).2.l) → ∀ st : List Int × Int, forN os st (fun st9 p16 => rangeN 0 (nw W : Int) >>= fun q50 => forN q50 (st9.1, st9.2) (fun st17 p20 => atN W.c.l p20 >>= fun x => side3 x s >>= fun x => (if x = (p : Int) then atN W.c.l p20 >>= fun x => side3 x (1 - s) >>= fun q33 => R.ok (decide (q33 = p16)) else R.ok false) >>= fun q36 => if q36 = true then atN off p20 >>= fun x => atN W.c.l p20 >>= fun x_3 => min3N st17.2 x x_3.c >>= fun q48 => putN st17.1 p20 q48 >>= fun v_found => atN v_found p20 >>= fun x => R.ok (v_found, st17.2 - x) else R.ok (st17.1, st17.2)) >>= fun st17 => R.ok (st17.1, st17.2)) =
      forN os st (fun st9 o => atN off ((ix W s p o : Nat) : Int) >>= fun q20 => atN W.c.l ((ix W s p o : Nat) : Int) >>= fun q1 => min3N st9.2 q20 q1.c >>= fun q26 => putN st9.1 ((ix W s p o : Nat) : Int) q26 >>= fun v_found => atN v_found ((ix W s p o : Nat) : Int) >>= fun q25 => R.ok (v_found, st9.2 - q25)) := fun os => by
    induction os with
    | nil => intro _ st; rfl
    | cons o os ih =>
      intro hos st
      obtain ⟨i, hi, he, rfl⟩ := (likes_mem h hs hp).mp (hos o List.mem_cons_self)
      have hx := ix_eq h hs hi
      rw [he] at hx
      have hb := end_ok h hs hi
      unfold forN
      rw [hx, range_ok (by omega), ok_bind]
      rw [forN_one (i := ((i : Nat) : Int)) (List.mem_map.mpr ⟨i, List.mem_range.mpr hi, rfl⟩) (by
        rw [List.nodup_iff_pairwise_ne, List.pairwise_map]
        exact (List.nodup_iff_pairwise_ne.mp List.nodup_range).imp fun {a b} hab e => hab (by omega)) (fun st x hx2 hne => ?_)]
      · rw [atN_nat (wy_get hi), ok_bind, en_ok _ hs, ok_bind, if_pos (by rw [he] at hb; exact hb.1.symm), ok_bind, en_ok _ hs.flip, ok_bind, ok_bind, if_pos (decide_eq_true rfl)]
        simp only [bind_asc]
        congr 1
        funext q20
        rw [ok_bind, ok_bind]
        congr 1
        funext q26
        congr 1
        funext v
        congr 1
        funext q25
        have ih' := ih (fun o' h' => hos o' (List.mem_cons_of_mem _ h')) (v, st.2 - q25)
        rw [range_ok (by omega)] at ih'
        rw [ok_bind, ok_bind, ok_bind]
        exact ih'
      · obtain ⟨j, hj, rfl⟩ := List.mem_map.mp hx2
        have hj := List.mem_range.mp hj
        have hbj := end_ok h hs hj
        rw [atN_nat (wy_get hj), ok_bind, en_ok _ hs, ok_bind]
        by_cases c : en (wy W j) s = (p : Int)
        · rw [if_pos c, ok_bind, en_ok _ hs.flip, ok_bind, ok_bind]
          have hne2 : en (wy W j) (1 - s) ≠ en (wy W i) (1 - s) := fun q => hne (by
            have := en_inj h hs hj hi (by rw [he] at hb; omega) q
            rw [this])
          rw [if_neg (by simpa using hne2)]
        · rw [if_neg c, ok_bind, if_neg Bool.false_ne_true]
  have k2 := key (pl W s p).2.l (fun o ho => ho) (List.replicate (nw W) 0, (pl W s p).1)
  exact k2
theorem l_ends_ok {off : List Int} (hl : off.length = nw W) (ho : ∀ j, j < nw W → 0 ≤ val off j) :
    n__law_ends W s ⟨off⟩ = .ok ⟨tab (nw W) (Ch W s (val off))⟩ := by
  rw [← both_ends_ok h hs hl ho]
  have e1 := len_ok (W := W) hs
  obtain ⟨t, e2, e3⟩ := side_ok (W := W) hs
  simp only [n__law_ends, n_both_ends, O2.f, OC.f, O1.f, SeqN.f, Ix.f, Sl.f, Un2.f, Un3.f, ok_bind, ex_bind, bad_bind, bind_asc, bind_okr, upR_refl, up_refl, upR_ok, upR_ex, up_D, up_some, up_none, up_nilL, up_nilT, oR_some, optB_some, nxE_nx, nxE_ret, em_D, id_eq, if_true_eq, if_false_eq, decide_eq_true_eq, Bool.not_true, Bool.not_false, ite_true_b, ite_false_b, Bool.true_and, Bool.and_true]
  rw [show ((W.c.l.length : Nat) : Int) = (nw W : Int) from rfl, hl, e2]
  simp only [ok_bind]
  rw [e3, range_ok (by have := (h.len s hs).2; omega)]
  congr 1
  funext f
  rw [ok_bind, ok_bind]
  rw [forN_map, forN_map]
  have key : ∀ (ps : List Nat), (∀ p ∈ ps, p < (sd W s).length) → ∀ st, forN ps st (fun (st5 : List Int) (x : Nat) => n__law_choice W s x ⟨off⟩ >>= fun x => mapN (st5.zip x.l) fun p19 => R.ok (p19.1 + p19.2)) = forN ps st (fun (st5 : List Int) (x : Nat) => n_chosen W s x ⟨off⟩ >>= fun q16 => mapN (st5.zip q16.l) fun p19 => R.ok (p19.1 + p19.2)) := fun ps => by
    induction ps with
    | nil => intro _ st; rfl
    | cons p ps ih =>
      intro hps st
      unfold forN
      rw [l_choice_ok h hs (hps p List.mem_cons_self) hl ho, chosen_ok h hs (hps p List.mem_cons_self) hl ho]
      congr 1
      funext s'
      exact ih (fun q hq => hps q (List.mem_cons_of_mem _ hq)) s'
  rw [key _ (fun p hp => List.mem_range.mp hp)]
end
end Lw

/-! Plans. -/
namespace Mt
theorem sum_range (n : Nat) (p : Nat → Bool) (f : Nat → Int) : (((List.range n).filter p).map f).sum = sm n fun i => if p i = true then f i else 0 := by
  induction n with
  | zero => rfl
  | succ n ih =>
    rw [List.range_succ, List.filter_append, List.map_append, List.sum_append, ih]
    show _ = sm n _ + _
    congr 1
    by_cases c : p n = true
    · simp [List.filter_cons, c]
    · simp [List.filter_cons, c]
theorem sum_tab (n : Nat) (f : Nat → Int) : ((List.range n).map f).sum = sm n f := by
  have := sum_range n (fun _ => true) f
  rw [List.filter_eq_self.mpr (fun _ _ => rfl)] at this
  simpa using this
end Mt
namespace Lw
open SF.Em (em)
open SF.Up (up)
open PySem SF Mt
/-- a plan of a world -/
structure POk (W : Wd) (x : List Int) : Prop where
  l : x.length = nw W
  f : Feas (mk W) (val x)
section
variable {W : Wd}
theorem zip_ways {x : List Int} (hl : x.length = nw W) : x.zip W.c.l = (List.range (nw W)).map fun i => (val x i, wy W i) := by
  apply List.ext_getElem?
  intro i
  by_cases hi : i < nw W
  · rw [(List.getElem?_zip_eq_some (z := (val x i, wy W i))).mpr ⟨val_get (by omega), wy_get hi⟩]
    rw [List.getElem?_map, List.getElem?_range hi]
    rfl
  · rw [List.getElem?_eq_none (by simp; omega), List.getElem?_eq_none (by simp; omega)]
theorem castR_em {α : Type} [Em α] (inj : ∀ a b : α, em a = em b → a = b) (a : α) : (castR (em a) : R α) = .ok a := by
  unfold castR
  have h : ∃ b : α, em b = em a := ⟨a, rfl⟩
  rw [dif_pos h]
  exact congrArg R.ok (inj _ _ h.choose_spec)
theorem em_inj {α : Type} [Em α] [EmE α] (a b : α) (h : em a = em b) : a = b := (EmE.eqv a b).mp (by rw [h]; exact (EmE.eqv b b).mpr rfl)
theorem castR_ok {α : Type} [Em α] [EmE α] (a : α) : (castR (em a) : R α) = .ok a := castR_em em_inj a
variable (h : WOk W) {s : Int} (hs : Sid s)
include h hs
theorem used_ok {x : List Int} (hl : x.length = nw W) (p : Nat) : n_used W ⟨x⟩ s (p : Int) = .ok (tot (nw W) (sdm W s) (val x) p) := by
  simp only [n_used, O2.f, OC.f, O1.f, SeqN.f, Ix.f, Sl.f, Un2.f, Un3.f, ok_bind, ex_bind, bad_bind, bind_asc, bind_okr, upR_refl, up_refl, upR_ok, upR_ex, up_D, up_some, up_none, up_nilL, up_nilT, oR_some, optB_some, nxE_nx, nxE_ret, em_D, id_eq, if_true_eq, if_false_eq, decide_eq_true_eq, Bool.not_true, Bool.not_false, ite_true_b, ite_false_b, Bool.true_and, Bool.and_true]
  rw [zip_ways hl]
  have e := lcN_ok (l := (List.range (nw W)).map fun i => (val x i, wy W i)) (c := fun p5 : Int × Wy => side3 p5.2 s >>= fun q9 => R.ok (decide (q9 = (p : Int)))) (e := fun p5 => R.ok p5.1) (p := fun q => decide (en q.2 s = (p : Int))) (g := fun q => q.1) (fun q _ => by rw [en_ok _ hs]; rfl) (fun _ _ _ => rfl)
  rw [e, ok_bind, List.filter_map, List.map_map]
  congr 1
  have := sum_range (nw W) ((fun q : Int × Wy => decide (en q.2 s = (p : Int))) ∘ fun i => (val x i, wy W i)) (val x)
  refine this.trans (sm_congr fun i hi => ?_)
  have hb := end_ok h hs hi
  show (if decide (en (wy W i) s = (p : Int)) = true then val x i else 0) = _
  by_cases c : (sdm W s).e i = p
  · rw [if_pos c, if_pos (decide_eq_true (by omega))]
  · rw [if_neg c, if_neg (fun z => c (by have := of_decide_eq_true z; omega))]
theorem need_place_ok {p : Nat} (hp : p < (sd W s).length) : n_need_place W s (em (p : Int)) = .ok () := by
  obtain ⟨t, e1, e2⟩ := side_ok (W := W) hs
  simp only [n_need_place, O2.f, OC.f, O1.f, SeqN.f, Ix.f, Sl.f, Un2.f, Un3.f, ok_bind, ex_bind, bad_bind, bind_asc, bind_okr, upR_refl, up_refl, upR_ok, upR_ex, up_D, up_some, up_none, up_nilL, up_nilT, oR_some, optB_some, nxE_nx, nxE_ret, em_D, id_eq, if_true_eq, if_false_eq, decide_eq_true_eq, Bool.not_true, Bool.not_false, ite_true_b, ite_false_b, Bool.true_and, Bool.and_true]
  rw [e1, ok_bind, em_int, number_int, ok_bind, if_neg (by rw [e2]; simp; omega)]
omit h hs
theorem is_plan_ok (h : WOk W) (x : List Int) : n_is_plan W (em (⟨x⟩ : Plan)) = .ok (@decide (POk W x) (Classical.propDecidable _)) := by
  classical
  have e0 : @decide (POk W x) (Classical.propDecidable _) = decide (POk W x) := by congr
  rw [e0]
  simp only [n_is_plan, O2.f, OC.f, O1.f, SeqN.f, Ix.f, Sl.f, Un2.f, Un3.f, ok_bind, ex_bind, bad_bind, bind_asc, bind_okr, upR_refl, up_refl, upR_ok, upR_ex, up_D, up_some, up_none, up_nilL, up_nilT, oR_some, optB_some, nxE_nx, nxE_ret, em_D, id_eq, if_true_eq, if_false_eq, decide_eq_true_eq, Bool.not_true, Bool.not_false, ite_true_b, ite_false_b, Bool.true_and, Bool.and_true]
  rw [isT, ok_bind, if_neg (by decide), lenT, ok_bind, ok_bind]
  by_cases hl : x.length = nw W
  · rw [if_neg (by show ¬ (!decide ((x.length : Int) = (W.c.l.length : Int))) = true; rw [show (W.c.l.length : Int) = (nw W : Int) from rfl, hl]; simp), seq_em, ok_bind]
    have ez : (List.map em x).zip W.c.l = (List.range (nw W)).map fun i => ((em (val x i) : D), wy W i) := by
      rw [show (List.map em x).zip W.c.l = (x.zip W.c.l).map fun p => ((em p.1 : D), p.2) by rw [List.zip_map_left]; rfl, zip_ways hl, List.map_map]
      rfl
    show (mapN ((List.map em x).zip W.c.l) _ >>= _) = _
    rw [ez, mapN_map, mapN_ok (e := fun i => n_is_number (em (val x i)) 0 (wy W i).c) (g := fun i => decide (0 ≤ val x i ∧ val x i ≤ wlim W i)) (fun i _ => number_int _ _ _), ok_bind]
    by_cases hr : ∀ i, i < nw W → 0 ≤ val x i ∧ val x i ≤ wlim W i
    · rw [if_neg (by rw [all_map_true (fun i hi => decide_eq_true (hr i (List.mem_range.mp hi)))]; decide)]
      have r2 : rangeN 0 2 = .ok [0, 1] := range_ok (n := 2) (by decide)
      have hside : ∀ s, Sid s → (side3 W s >>= fun x_1 => mapN (enumN x_1.l) (fun p25 => castR (em (⟨x⟩ : Plan)) >>= fun x_2 => n_used W x_2 s p25.1 >>= fun q31 => R.ok (decide (q31 ≤ p25.2.1))) >>= fun x_2 => if (!x_2.all id) = true then R.ok (Nx.ret false) else R.ok (Nx.nx ())) = (.ok (if (∀ p, tot (nw W) (sdm W s) (val x) p ≤ (sdm W s).A p) then Nx.nx () else Nx.ret false) : R (Nx Unit Bool)) := fun s hs => by
        obtain ⟨t, e1, e2⟩ := side_ok (W := W) hs
        rw [e1, ok_bind, e2, mapN_ok (g := fun p : Int × Pl => decide (tot (nw W) (sdm W s) (val x) p.1.toNat ≤ p.2.1)) (fun p hp => by
          obtain ⟨d, r, hd⟩ := List.append_of_mem hp
          obtain ⟨g1, g2, _⟩ := enumN_split hd
          rw [castR_ok, ok_bind, g1, used_ok h hs hl, ok_bind, Int.toNat_natCast]), ok_bind]
        have hx0 : ∀ i, i < nw W → 0 ≤ val x i := fun i hi => (hr i hi).1
        by_cases ha : ∀ p, tot (nw W) (sdm W s) (val x) p ≤ (sdm W s).A p
        · rw [if_pos ha, all_map_true, if_neg (by decide)]
          intro p hp
          obtain ⟨d, r, hd⟩ := List.append_of_mem hp
          obtain ⟨g1, g2, _⟩ := enumN_split hd
          have hk : d.length < (sd W s).length := (List.getElem?_eq_some_iff.mp g2).1
          have := ha d.length
          rw [g1, Int.toNat_natCast]
          have e3 : pl W s d.length = p.2 := Option.some.inj ((pl_get hk).symm.trans g2)
          have e4 : (sdm W s).A d.length = p.2.1 := by show (pl W s d.length).1 = _; rw [e3]
          rw [← e4]
          exact decide_eq_true this
        · rw [if_neg ha]
          have : ∃ p, p < (sd W s).length ∧ ¬ tot (nw W) (sdm W s) (val x) p ≤ (sdm W s).A p := Classical.byContradiction fun c => ha fun p => by
            by_cases hp : p < (sd W s).length
            · exact Classical.byContradiction fun c2 => c ⟨p, hp, c2⟩
            · have e : tot (nw W) (sdm W s) (val x) p = 0 := by
                unfold tot
                rw [sm_congr (g := fun _ => 0), sm_zero]
                intro j hj
                exact if_neg fun z => hp (by have := (end_ok h hs hj).2; omega)
              rw [e]
              exact (sdm_ok h hs).A p
          obtain ⟨p, hp, hn⟩ := this
          rw [if_pos]
          have hm : ((p : Int), pl W s p) ∈ enumN (sd W s) := List.mem_of_getElem? (enumN_get (pl_get hp))
          have hf : ¬ ((enumN (sd W s)).map fun p : Int × Pl => decide (tot (nw W) (sdm W s) (val x) p.1.toNat ≤ p.2.1)).all id = true := fun hc => by
            rw [List.all_map, List.all_eq_true] at hc
            have := hc _ hm
            have := of_decide_eq_true this
            rw [Int.toNat_natCast] at this
            exact hn this
          cases hb : ((enumN (sd W s)).map fun p : Int × Pl => decide (tot (nw W) (sdm W s) (val x) p.1.toNat ≤ p.2.1)).all id with
          | true => exact absurd hb hf
          | false => rfl
      rw [r2, ok_bind]
      unfold forX
      rw [hside 0 (.inl rfl), ok_bind]
      by_cases h0 : ∀ p, tot (nw W) (sdm W 0) (val x) p ≤ (sdm W 0).A p
      · rw [if_pos h0]
        dsimp only
        unfold forX
        rw [hside 1 (.inr rfl), ok_bind]
        by_cases h1 : ∀ p, tot (nw W) (sdm W 1) (val x) p ≤ (sdm W 1).A p
        · rw [if_pos h1]
          show R.ok true = _
          rw [decide_eq_true (⟨hl, ⟨hr, h0, h1⟩⟩ : POk W x)]
        · rw [if_neg h1]
          show R.ok false = _
          rw [decide_eq_false (fun z : POk W x => h1 z.f.t)]
      · rw [if_neg h0]
        show R.ok false = _
        rw [decide_eq_false (fun z : POk W x => h0 z.f.g)]
    · rw [if_pos]
      · rw [decide_eq_false (fun z : POk W x => hr z.f.r)]
      · cases hb : ((List.range (nw W)).map fun i => decide (0 ≤ val x i ∧ val x i ≤ wlim W i)).all id with
        | false => rfl
        | true =>
          exfalso
          rw [List.all_map, List.all_eq_true] at hb
          exact hr fun i hi => of_decide_eq_true (hb i (List.mem_range.mpr hi))
  · rw [if_pos (by simp; unfold nw at hl; omega), decide_eq_false (fun z : POk W x => hl z.l)]
theorem is_plan_yes (h : WOk W) {x : List Int} (hx : POk W x) : n_is_plan W (em (⟨x⟩ : Plan)) = .ok true := by
  rw [is_plan_ok h, @decide_eq_true _ (Classical.propDecidable _) hx]
theorem need_plan_ok (h : WOk W) {x : List Int} (hx : POk W x) : n_need_plan (em W) (em (⟨x⟩ : Plan)) = .ok () := by
  simp only [n_need_plan, O2.f, OC.f, O1.f, SeqN.f, Ix.f, Sl.f, Un2.f, Un3.f, ok_bind, ex_bind, bad_bind, bind_asc, bind_okr, upR_refl, up_refl, upR_ok, upR_ex, up_D, up_some, up_none, up_nilL, up_nilT, oR_some, optB_some, nxE_nx, nxE_ret, em_D, id_eq, if_true_eq, if_false_eq, decide_eq_true_eq, Bool.not_true, Bool.not_false, ite_true_b, ite_false_b, Bool.true_and, Bool.and_true]
  rw [need_world_ok h, ok_bind, castR_ok, ok_bind, is_plan_yes h hx, ok_bind, if_neg (by decide)]
include h hs
/-- a place would have more -/
theorem wants_ok {x : List Int} (hx : POk W x) {i : Nat} (hi : i < nw W) : n_wants W ⟨x⟩ s (en (wy W i) s) (i : Int) = .ok (decide (S (nw W) (sdm W s) (val x) i < (sdm W s).A ((sdm W s).e i))) := by
  have hb := end_ok h hs hi
  have ok := sdm_ok h hs
  have hx0 : ∀ j, j < nw W → 0 ≤ val x j := fun j hj => (hx.f.r j hj).1
  obtain ⟨t, e1, e2⟩ := side_ok (W := W) hs
  have e3 := at_getD (l := t.l) (n := (sdm W s).e i) (by rw [e2]; exact hb.2) (0, ⟨[]⟩)
  have e4 : t.l.getD ((sdm W s).e i) (0, ⟨[]⟩) = pl W s ((sdm W s).e i) := by rw [e2]; rfl
  rw [e4] at e3
  have hA : (pl W s ((sdm W s).e i)).1 = (sdm W s).A ((sdm W s).e i) := rfl
  simp only [n_wants, O2.f, OC.f, O1.f, SeqN.f, Ix.f, Sl.f, Un2.f, Un3.f, ok_bind, ex_bind, bad_bind, bind_asc, bind_okr, upR_refl, up_refl, upR_ok, upR_ex, up_D, up_some, up_none, up_nilL, up_nilT, oR_some, optB_some, nxE_nx, nxE_ret, em_D, id_eq, if_true_eq, if_false_eq, decide_eq_true_eq, Bool.not_true, Bool.not_false, ite_true_b, ite_false_b, Bool.true_and, Bool.and_true]
  rw [← hb.1, used_ok h hs hx.l, ok_bind, e1, ok_bind, e3, ok_bind, hA]
  have hle := S_le_tot (n := nw W) (d := sdm W s) hx0 i
  by_cases c : tot (nw W) (sdm W s) (val x) ((sdm W s).e i) < (sdm W s).A ((sdm W s).e i)
  · rw [if_pos c, decide_eq_true (by omega)]
  · rw [if_neg c, ways_liked_ok h hs hb.2, ok_bind]
    have hk := (liked_get h hs hb.2 ((sdm W s).rk i) i).mpr ⟨hi, rfl, rfl⟩
    have hm : ((i : Nat) : Int) ∈ (liked W s ((sdm W s).e i)).map fun i : Nat => (i : Int) := List.mem_map.mpr ⟨i, List.mem_of_getElem? hk, rfl⟩
    have hidx : ((liked W s ((sdm W s).e i)).map fun i : Nat => (i : Int)).findIdx (fun y => decide (y = (i : Int))) = (sdm W s).rk i := by
      have hlt : (sdm W s).rk i < ((liked W s ((sdm W s).e i)).map fun i : Nat => (i : Int)).length := by rw [List.length_map]; exact (List.getElem?_eq_some_iff.mp hk).1
      rw [List.findIdx_eq hlt]
      constructor
      · rw [List.getElem_map]
        have := (List.getElem?_eq_some_iff.mp hk).2
        rw [this]; simp
      · intro j hj
        rw [List.getElem_map]
        have hj' : j < (liked W s ((sdm W s).e i)).length := by have := (List.getElem?_eq_some_iff.mp hk).1; omega
        have q := (liked_get h hs hb.2 j _).mp (List.getElem?_eq_getElem hj')
        refine decide_eq_false fun z => ?_
        have z : (liked W s ((sdm W s).e i))[j] = i := by omega
        rw [z] at q
        omega
    rw [if_pos hm, hidx, ok_bind, show (((sdm W s).rk i : Nat) : Int) + 1 = (((sdm W s).rk i + 1 : Nat) : Int) by omega, fromL_nat, ← List.map_drop, mapN_map]
    rw [mapN_ok (g := fun j : Nat => decide (0 < val x j)) (fun j hj => by
      have := (liked_mem h hs hb.2).mp (List.mem_of_mem_drop hj)
      rw [at_val (by have := hx.l; omega), ok_bind]), ok_bind]
    congr 1
    rw [Bool.eq_iff_iff, decide_eq_true_eq, List.any_map, List.any_eq_true]
    have tle := hx.f
    have ht : tot (nw W) (sdm W s) (val x) ((sdm W s).e i) ≤ (sdm W s).A ((sdm W s).e i) := by
      rcases hs with rfl | rfl
      · exact hx.f.g _
      · exact hx.f.t _
    constructor
    · rintro ⟨j, hj, hj2⟩
      have hj2 : 0 < val x j := of_decide_eq_true hj2
      obtain ⟨k, hk2⟩ := List.mem_iff_getElem?.mp hj
      rw [List.getElem?_drop] at hk2
      have q := (liked_get h hs hb.2 _ j).mp hk2
      have l1 := S_lt ok hx0 q.1 hi (by rw [q.2.1]) (by omega)
      have l2 := S_le_tot (n := nw W) (d := sdm W s) hx0 j
      rw [q.2.1] at l2
      omega
    · intro hlt
      refine Classical.byContradiction fun hc => ?_
      have : ∀ j, j < nw W → (sdm W s).e j = (sdm W s).e i → (sdm W s).rk i < (sdm W s).rk j → val x j = 0 := fun j hj he hr => by
        have h0 := hx0 j hj
        refine Classical.byContradiction fun c2 => hc ⟨j, ?_, decide_eq_true (by omega)⟩
        refine List.mem_iff_getElem?.mpr ⟨(sdm W s).rk j - ((sdm W s).rk i + 1), ?_⟩
        rw [List.getElem?_drop]
        exact (liked_get h hs hb.2 _ j).mpr ⟨hj, he, by omega⟩
      have : tot (nw W) (sdm W s) (val x) ((sdm W s).e i) = S (nw W) (sdm W s) (val x) i := sm_congr fun j hj => by
        by_cases c1 : (sdm W s).e j = (sdm W s).e i
        · by_cases c2 : (sdm W s).rk j ≤ (sdm W s).rk i
          · rw [if_pos c1, if_pos ⟨c1, c2⟩]
          · rw [if_pos c1, if_neg (fun z => c2 z.2), this j hj c1 (by omega)]
        · rw [if_neg c1, if_neg (fun z => c1 z.1)]
      omega
omit h hs
/-- both would leave for a way -/
def lv (W : Wd) (x : List Int) (i : Nat) : Bool := !decide (val x i = wlim W i) && (decide (S (nw W) (sdm W 0) (val x) i < (sdm W 0).A ((sdm W 0).e i)) && decide (S (nw W) (sdm W 1) (val x) i < (sdm W 1).A ((sdm W 1).e i)))
theorem would_leave_ok (h : WOk W) {x : List Int} (hx : POk W x) {i : Nat} (hi : i < nw W) : n_would_leave W ⟨x⟩ (i : Int) = .ok (lv W x i) := by
  simp only [n_would_leave, O2.f, OC.f, O1.f, SeqN.f, Ix.f, Sl.f, Un2.f, Un3.f, ok_bind, ex_bind, bad_bind, bind_asc, bind_okr, upR_refl, up_refl, upR_ok, upR_ex, up_D, up_some, up_none, up_nilL, up_nilT, oR_some, optB_some, nxE_nx, nxE_ret, em_D, id_eq, if_true_eq, if_false_eq, decide_eq_true_eq, Bool.not_true, Bool.not_false, ite_true_b, ite_false_b, Bool.true_and, Bool.and_true]
  have hl := hx.l
  rw [atN_nat (wy_get hi), ok_bind, at_val (by omega), ok_bind]
  unfold lv
  have hlim : (wy W i).c = wlim W i := rfl
  rw [hlim]
  by_cases c : val x i = wlim W i
  · rw [if_pos c, decide_eq_true c]; rfl
  · rw [if_neg c, decide_eq_false c]
    have w0 := wants_ok h (.inl rfl : Sid 0) hx hi
    have w1 := wants_ok h (.inr rfl : Sid 1) hx hi
    have e0 : en (wy W i) 0 = (wy W i).a := rfl
    have e1 : en (wy W i) 1 = (wy W i).b := rfl
    rw [e0] at w0
    rw [e1] at w1
    rw [w0, ok_bind]
    cases hd : decide (S (nw W) (sdm W 0) (val x) i < (sdm W 0).A ((sdm W 0).e i)) with
    | true => rw [if_pos rfl, w1]; rfl
    | false => rfl
def lvs (W : Wd) (x : List Int) : List Nat := (List.range (nw W)).filter (lv W x)
theorem leaving_ok (h : WOk W) {x : List Int} (hx : POk W x) : n_leaving W ⟨x⟩ = .ok ((lvs W x).map fun i : Nat => (i : Int)) := by
  have n16 := nw_le h (.inl rfl : Sid 0)
  simp only [n_leaving, O2.f, OC.f, O1.f, SeqN.f, Ix.f, Sl.f, Un2.f, Un3.f, ok_bind, ex_bind, bad_bind, bind_asc, bind_okr, upR_refl, up_refl, upR_ok, upR_ex, up_D, up_some, up_none, up_nilL, up_nilT, oR_some, optB_some, nxE_nx, nxE_ret, em_D, id_eq, if_true_eq, if_false_eq, decide_eq_true_eq, Bool.not_true, Bool.not_false, ite_true_b, ite_false_b, Bool.true_and, Bool.and_true]
  rw [need_plan_ok h hx, ok_bind, show ((W.c.l.length : Nat) : Int) = (nw W : Int) from rfl, range_ok (by omega), ok_bind]
  rw [lcN_ok (p := fun i => lv W x i.toNat) (g := fun i => i) (fun i hi => by
    obtain ⟨j, hj, rfl⟩ := List.mem_map.mp hi
    rw [would_leave_ok h hx (List.mem_range.mp hj), Int.toNat_natCast]) (fun _ _ _ => rfl)]
  unfold lvs
  rw [List.filter_map, List.map_map]
  congr 1
theorem rests_ok (h : WOk W) {x : List Int} (hx : POk W x) : n_rests W ⟨x⟩ = .ok (lvs W x).isEmpty := by
  simp only [n_rests, O2.f, OC.f, O1.f, SeqN.f, Ix.f, Sl.f, Un2.f, Un3.f, ok_bind, ex_bind, bad_bind, bind_asc, bind_okr, upR_refl, up_refl, upR_ok, upR_ex, up_D, up_some, up_none, up_nilL, up_nilT, oR_some, optB_some, nxE_nx, nxE_ret, em_D, id_eq, if_true_eq, if_false_eq, decide_eq_true_eq, Bool.not_true, Bool.not_false, ite_true_b, ite_false_b, Bool.true_and, Bool.and_true]
  rw [leaving_ok h hx, ok_bind, List.isEmpty_map]
theorem rests_iff (h : WOk W) {x : List Int} (hx : POk W x) : (lvs W x).isEmpty = true ↔ St (mk W) (val x) := by
  rw [List.isEmpty_iff]
  unfold lvs
  rw [List.filter_eq_nil_iff]
  constructor
  · intro hn
    refine ⟨hx.f, fun i hi => ?_⟩
    have := hn i (List.mem_range.mpr hi)
    unfold lv at this
    show val x i = wlim W i ∨ (sdm W 0).A ((sdm W 0).e i) ≤ S (nw W) (sdm W 0) (val x) i ∨ (sdm W 1).A ((sdm W 1).e i) ≤ S (nw W) (sdm W 1) (val x) i
    by_cases c1 : val x i = wlim W i
    · exact .inl c1
    · by_cases c2 : S (nw W) (sdm W 0) (val x) i < (sdm W 0).A ((sdm W 0).e i)
      · by_cases c3 : S (nw W) (sdm W 1) (val x) i < (sdm W 1).A ((sdm W 1).e i)
        · exact absurd (by rw [decide_eq_false c1, decide_eq_true c2, decide_eq_true c3]; rfl) this
        · omega
      · omega
  · intro st i hi hc
    have hi := List.mem_range.mp hi
    have hb : val x i = wlim W i ∨ (sdm W 0).A ((sdm W 0).e i) ≤ S (nw W) (sdm W 0) (val x) i ∨ (sdm W 1).A ((sdm W 1).e i) ≤ S (nw W) (sdm W 1) (val x) i := st.b i hi
    unfold lv at hc
    rw [Bool.and_eq_true, Bool.and_eq_true, Bool.not_eq_true', decide_eq_false_iff_not, decide_eq_true_eq, decide_eq_true_eq] at hc
    omega
theorem sent_ok (h : WOk W) {x : List Int} (hx : POk W x) {p : Nat} (hp : p < (sd W 0).length) : n_sent W ⟨x⟩ (p : Int) = .ok (tot (nw W) (sdm W 0) (val x) p) := by
  simp only [n_sent, O2.f, OC.f, O1.f, SeqN.f, Ix.f, Sl.f, Un2.f, Un3.f, ok_bind, ex_bind, bad_bind, bind_asc, bind_okr, upR_refl, up_refl, upR_ok, upR_ex, up_D, up_some, up_none, up_nilL, up_nilT, oR_some, optB_some, nxE_nx, nxE_ret, em_D, id_eq, if_true_eq, if_false_eq, decide_eq_true_eq, Bool.not_true, Bool.not_false, ite_true_b, ite_false_b, Bool.true_and, Bool.and_true]
  rw [need_plan_ok h hx, ok_bind, need_place_ok h (.inl rfl) hp, ok_bind, used_ok h (.inl rfl) hx.l]
theorem taken_ok (h : WOk W) {x : List Int} (hx : POk W x) {p : Nat} (hp : p < (sd W 1).length) : n_taken W ⟨x⟩ (p : Int) = .ok (tot (nw W) (sdm W 1) (val x) p) := by
  simp only [n_taken, O2.f, OC.f, O1.f, SeqN.f, Ix.f, Sl.f, Un2.f, Un3.f, ok_bind, ex_bind, bad_bind, bind_asc, bind_okr, upR_refl, up_refl, upR_ok, upR_ex, up_D, up_some, up_none, up_nilL, up_nilT, oR_some, optB_some, nxE_nx, nxE_ret, em_D, id_eq, if_true_eq, if_false_eq, decide_eq_true_eq, Bool.not_true, Bool.not_false, ite_true_b, ite_false_b, Bool.true_and, Bool.and_true]
  rw [need_plan_ok h hx, ok_bind, need_place_ok h (.inr rfl) hp, ok_bind, used_ok h (.inr rfl) hx.l]
end
end Lw

/-! The best plans. -/
namespace Lw
open SF.Em (em)
open SF.Up (up)
open PySem SF Mt
section
variable {W : Wd} (h : WOk W)
include h
theorem low_inv {caps : List Int} (hc : COk W caps) (hi : Inv (mk W) (val caps)) (hb : ∀ y, St (mk W) y → ∀ i, i < nw W → y i ≤ val caps i) {r : Int × Int} (hr : refM W caps = some r) : Inv (mk W) (val (low caps r)) ∧ ∀ y, St (mk W) y → ∀ i, i < nw W → y i ≤ val (low caps r) i := by
  obtain ⟨i, hin, he, h1, h2, h3⟩ := refM_some h hc hr
  have hv : ∀ j, val (low caps r) j = if j = i then r.2 else val caps j := fun j => by
    have := val_low hc hin (c := r.2) j
    rw [← this, he]
  refine ⟨hi.step (mk_ok h) hin (fun j _ hne => by rw [hv, if_neg hne]) ?_ ?_, fun y hy j hj => ?_⟩
  · rw [hv, if_pos rfl, he]; exact Int.le_refl _
  · rw [hv, if_pos rfl, he]; exact h1
  · rw [hv]
    by_cases e : j = i
    · subst e
      rw [if_pos rfl, he]
      exact paper_sound (mk_ok h) (fun i hi => hc.r i hi) hy (fun i hi => hb y hy i hi) hin h1
    · rw [if_neg e]; exact hb y hy j hj
theorem steps_inv : ∀ (n : Nat) (caps : List Int), COk W caps → Inv (mk W) (val caps) → (∀ y, St (mk W) y → ∀ i, i < nw W → y i ≤ val caps i) → Inv (mk W) (val (capL caps (stepsM W n caps))) ∧ ∀ y, St (mk W) y → ∀ i, i < nw W → y i ≤ val (capL caps (stepsM W n caps)) i
  | 0, caps, hc, hi, hb => ⟨hi, hb⟩
  | n + 1, caps, hc, hi, hb => by
    unfold stepsM
    cases hr : refM W caps with
    | none => exact ⟨hi, hb⟩
    | some r =>
      obtain ⟨g1, g2⟩ := low_inv h hc hi hb hr
      exact steps_inv n (low caps r) (refM_low h hc hr).1 g1 g2
theorem lims_inv : Inv (mk W) (val (lims W)) ∧ ∀ y, St (mk W) y → ∀ i, i < nw W → y i ≤ val (lims W) i := by
  have e : ∀ i, i < nw W → val (lims W) i = wlim W i := fun i hi => val_tab hi
  refine ⟨⟨fun i hi => ?_, fun i hi hlt => ?_⟩, fun y hy i hi => ?_⟩
  · rw [e i hi]; exact ⟨(mk_ok h).lim i hi, Int.le_refl _⟩
  · rw [e i hi] at hlt; exact absurd hlt (Int.lt_irrefl _)
  · rw [e i hi]; exact (hy.r i hi).2
theorem end_inv : Inv (mk W) (val (endC W)) ∧ ∀ y, St (mk W) y → ∀ i, i < nw W → y i ≤ val (endC W) i := steps_inv h 10000 (lims W) (lims_ok h) (lims_inv h).1 (lims_inv h).2
theorem val_best {i : Nat} (hi : i < nw W) : val (best W) i = Ch W 0 (val (endC W)) i := val_tab hi
theorem St.congr {M : Mk} {x y : Nat → Int} (hx : St M x) (e : ∀ i, i < M.n → x i = y i) : St M y := ⟨⟨fun i hi => by rw [← e i hi]; exact hx.r i hi, fun p => by rw [← tot_congr e]; exact hx.g p, fun p => by rw [← tot_congr e]; exact hx.t p⟩, fun i hi => by rw [← e i hi, ← S_congr e, ← S_congr e]; exact hx.b i hi⟩
theorem best_st : St (mk W) (val (best W)) := by
  have h1 := (end_inv h).1.stable (mk_ok h) (fun i hi => refM_none (endC_ok h).1 i hi)
  exact St.congr h h1 fun i hi => (val_best h hi).symm
theorem best_pok : POk W (best W) := ⟨by unfold best; simp, (best_st h).toFeas⟩
theorem best_opt {y : Nat → Int} (hy : St (mk W) y) : ∀ i, i < nw W → Ch W 0 (mx (val (best W)) y) i = val (best W) i := fun i hi => by
  have := best_of (mk_ok h) (end_inv h).1 (fun i hi => refM_none (endC_ok h).1 i hi) hy (fun i hi => (end_inv h).2 y hy i hi) i hi
  rw [val_best h hi]
  refine Eq.trans (Ch_congr (fun j hj => ?_) hi) this
  unfold mx
  rw [val_best h hj]
  rfl
end
end Lw

/-! The world turned. -/
namespace Mt
theorem sum_perm : ∀ {l m : List Int}, l.Perm m → l.sum = m.sum := fun h => by
  induction h with
  | nil => rfl
  | cons x _ ih => rw [List.sum_cons, List.sum_cons, ih]
  | swap x y l => rw [List.sum_cons, List.sum_cons, List.sum_cons, List.sum_cons]; omega
  | trans _ _ ih1 ih2 => rw [ih1, ih2]
theorem perm_of_sub : ∀ {l m : List Nat}, l.Nodup → (∀ x ∈ l, x ∈ m) → m.length ≤ l.length → l.Perm m
  | [], m, _, _, hl => by
    cases m with
    | nil => exact .refl _
    | cons y m => simp at hl
  | x :: l, m, nd, hs, hl => by
    obtain ⟨n1, n2⟩ := List.nodup_cons.mp nd
    have hx := hs x List.mem_cons_self
    have p := List.perm_cons_erase hx
    refine ((perm_of_sub (l := l) (m := m.erase x) n2 (fun y hy => ?_) ?_).cons x).trans p.symm
    · exact (List.mem_erase_of_ne (fun (e : y = x) => n1 (by rw [← e]; exact hy))).mpr (hs y (List.mem_cons_of_mem _ hy))
    · rw [List.length_erase_of_mem hx]
      simp only [List.length_cons] at hl
      omega
theorem perm_range {n : Nat} {π : Nat → Nat} (h1 : ∀ i, i < n → π i < n) (h2 : ∀ i j, i < n → j < n → π i = π j → i = j) : ((List.range n).map π).Perm (List.range n) := by
  have nd : ((List.range n).map π).Nodup := by
    rw [List.nodup_iff_pairwise_ne, List.pairwise_map]
    refine (List.pairwise_iff_forall_sublist).mpr fun {a b} hs e => ?_
    have ha := List.mem_range.mp (hs.subset List.mem_cons_self)
    have hb := List.mem_range.mp (hs.subset (List.mem_cons_of_mem _ List.mem_cons_self))
    have := h2 a b ha hb e
    subst this
    have := (List.nodup_iff_pairwise_ne.mp List.nodup_range).sublist hs
    simp at this
  exact perm_of_sub nd (fun x hx => by
    obtain ⟨i, hi, rfl⟩ := List.mem_map.mp hx
    exact List.mem_range.mpr (h1 i (List.mem_range.mp hi))) (by simp)
theorem sm_perm {n : Nat} {π : Nat → Nat} (h1 : ∀ i, i < n → π i < n) (h2 : ∀ i j, i < n → j < n → π i = π j → i = j) (f : Nat → Int) : sm n (fun i => f (π i)) = sm n f := by
  rw [← sum_tab, ← sum_tab]
  have := sum_perm ((perm_range h1 h2).map f)
  rw [List.map_map] at this
  exact this
/-- markets that are alike, by other numbers of the ways, the sides exchanged -/
structure Iso (M M' : Mk) (π : Nat → Nat) : Prop where
  n : M'.n = M.n
  r : ∀ i, i < M.n → π i < M.n
  inj : ∀ i j, i < M.n → j < M.n → π i = π j → i = j
  lim : ∀ i, i < M.n → M'.lim i = M.lim (π i)
  ge : ∀ i, i < M.n → M'.G.e i = M.T.e (π i)
  te : ∀ i, i < M.n → M'.T.e i = M.G.e (π i)
  gr : ∀ i, i < M.n → M'.G.rk i = M.T.rk (π i)
  tr : ∀ i, i < M.n → M'.T.rk i = M.G.rk (π i)
  gA : M'.G.A = M.T.A
  tA : M'.T.A = M.G.A
section
variable {M M' : Mk} {π : Nat → Nat} (I : Iso M M' π)
include I
theorem Iso.SG (x : Nat → Int) {i : Nat} (hi : i < M.n) : S M.n M'.G (fun j => x (π j)) i = S M.n M.T x (π i) := by
  unfold S
  refine Eq.trans ?_ (sm_perm I.r I.inj _)
  exact sm_congr fun j hj => by rw [I.ge j hj, I.ge i hi, I.gr j hj, I.gr i hi]
theorem Iso.ST (x : Nat → Int) {i : Nat} (hi : i < M.n) : S M.n M'.T (fun j => x (π j)) i = S M.n M.G x (π i) := by
  unfold S
  refine Eq.trans ?_ (sm_perm I.r I.inj _)
  exact sm_congr fun j hj => by rw [I.te j hj, I.te i hi, I.tr j hj, I.tr i hi]
theorem Iso.totG (x : Nat → Int) (p : Nat) : tot M.n M'.G (fun j => x (π j)) p = tot M.n M.T x p := by
  unfold tot
  refine Eq.trans ?_ (sm_perm I.r I.inj _)
  exact sm_congr fun j hj => by rw [I.ge j hj]
theorem Iso.totT (x : Nat → Int) (p : Nat) : tot M.n M'.T (fun j => x (π j)) p = tot M.n M.G x p := by
  unfold tot
  refine Eq.trans ?_ (sm_perm I.r I.inj _)
  exact sm_congr fun j hj => by rw [I.te j hj]
theorem Iso.CG (x : Nat → Int) {i : Nat} (hi : i < M.n) : C M.n M'.G M'.lim (fun j => x (π j)) i = C M.n M.T M.lim x (π i) := by
  unfold C
  have e : S M.n M'.G (fun j => min (x (π j)) (M'.lim j)) i = S M.n M.T (fun j => min (x j) (M.lim j)) (π i) := by
    rw [← I.SG _ hi]
    exact S_congr (fun j hj => by rw [I.lim j hj]) i
  rw [e, I.lim i hi, I.ge i hi, I.gA]
theorem Iso.CT (x : Nat → Int) {i : Nat} (hi : i < M.n) : C M.n M'.T M'.lim (fun j => x (π j)) i = C M.n M.G M.lim x (π i) := by
  unfold C
  have e : S M.n M'.T (fun j => min (x (π j)) (M'.lim j)) i = S M.n M.G (fun j => min (x j) (M.lim j)) (π i) := by
    rw [← I.ST _ hi]
    exact S_congr (fun j hj => by rw [I.lim j hj]) i
  rw [e, I.lim i hi, I.te i hi, I.tA]
theorem Iso.feas {x : Nat → Int} (hx : Feas M x) : Feas M' fun j => x (π j) := ⟨fun i hi => by
    rw [I.n] at hi
    rw [I.lim i hi]; exact hx.r _ (I.r i hi), fun p => by rw [I.n, I.totG, I.gA]; exact hx.t p, fun p => by rw [I.n, I.totT, I.tA]; exact hx.g p⟩
theorem Iso.st {x : Nat → Int} (hx : St M x) : St M' fun j => x (π j) := ⟨I.feas hx.toFeas, fun i hi => by
    rw [I.n] at hi
    rw [I.n, I.lim i hi, I.ge i hi, I.te i hi, I.gA, I.tA, I.SG _ hi, I.ST _ hi]
    rcases hx.b (π i) (I.r i hi) with c | c | c
    · exact .inl c
    · exact .inr (.inr c)
    · exact .inr (.inl c)⟩
end
end Mt
namespace Lw
open SF.Em (em)
open SF.Up (up)
open PySem SF Mt
def swp (w : Wy) : Wy := ⟨w.b, w.a, w.c⟩
def turnW (W : Wd) : Wd := ⟨W.b, W.a, ⟨sortF (W.c.l.map swp)⟩⟩
theorem LeF_t3 {a b : Wy} : a.a < b.a ∨ a.a = b.a ∧ a.b < b.b → LeF a b := fun hh => by
  obtain ⟨a1, a2, a3⟩ := a
  obtain ⟨b1, b2, b3⟩ := b
  show lexLe [a1, a2, a3] [b1, b2, b3] = true
  unfold lexLe lexLe
  rcases hh with c | ⟨c1, c2⟩
  · have c : a1 < b1 := c
    rw [if_neg (by omega)]; simp [c]
  · have c1 : a1 = b1 := c1
    have c2 : a2 < b2 := c2
    rw [if_pos c1, if_neg (by omega)]; simp [c2]
theorem LeF_t3' {a b : Wy} (hh : LeF a b) (hne : ¬ (a.a = b.a ∧ a.b = b.b)) : a.a < b.a ∨ a.a = b.a ∧ a.b < b.b := by
  obtain ⟨a1, a2, a3⟩ := a
  obtain ⟨b1, b2, b3⟩ := b
  have hh : lexLe [a1, a2, a3] [b1, b2, b3] = true := hh
  unfold lexLe lexLe at hh
  by_cases c : a1 = b1
  · rw [if_pos c] at hh
    by_cases c2 : a2 = b2
    · exact absurd ⟨c, c2⟩ hne
    · rw [if_neg c2] at hh; exact .inr ⟨c, of_decide_eq_true hh⟩
  · rw [if_neg c] at hh; exact .inl (of_decide_eq_true hh)
section
variable {W : Wd} (h : WOk W)
theorem sd_turn {s : Int} (hs : Sid s) : sd (turnW W) s = sd W (1 - s) := by rcases hs with rfl | rfl <;> rfl
theorem en_swp (w : Wy) {s : Int} (hs : Sid s) : en (swp w) s = en w (1 - s) := by rcases hs with rfl | rfl <;> rfl
theorem pl_turn {s : Int} (hs : Sid s) (p : Nat) : pl (turnW W) s p = pl W (1 - s) p := by unfold pl; rw [sd_turn hs]
theorem turn_perm : (turnW W).c.l.Perm (W.c.l.map swp) := sortF_perm _
theorem nw_turn : nw (turnW W) = nw W := by
  unfold nw
  rw [turn_perm.length_eq, List.length_map]
theorem turn_mem {w : Wy} : w ∈ (turnW W).c.l ↔ swp w ∈ W.c.l := by
  rw [turn_perm.mem_iff, List.mem_map]
  constructor
  · rintro ⟨v, hv, rfl⟩; exact hv
  · intro hv; exact ⟨swp w, hv, rfl⟩
include h
theorem turn_srt : (turnW W).c.l.Pairwise fun a b => a.a < b.a ∨ a.a = b.a ∧ a.b < b.b := by
  have h1 : (turnW W).c.l.Pairwise LeF := sortF_sorted _
  have h2 : (turnW W).c.l.Pairwise fun a b => ¬ (a.a = b.a ∧ a.b = b.b) := by
    have : (W.c.l.map swp).Pairwise fun a b => ¬ (a.a = b.a ∧ a.b = b.b) := by
      rw [List.pairwise_map]
      exact h.srt.imp fun {a b} hab hc => by
        have c1 : a.b = b.b := hc.1
        have c2 : a.a = b.a := hc.2
        omega
    exact (turn_perm.pairwise_iff (fun {a b} hab hc => hab ⟨hc.1.symm, hc.2.symm⟩)).mpr this
  exact (h1.and h2).imp fun {a b} hab => LeF_t3' hab.1 hab.2
theorem turn_ok : WOk (turnW W) where
  len s hs := by rw [sd_turn hs]; exact h.len _ hs.flip
  amt s hs p hp := by rw [sd_turn hs] at hp; exact h.amt _ hs.flip p hp
  wy w hw := by
    have := h.wy _ (turn_mem.mp hw)
    refine ⟨fun s hs => ?_, this.2⟩
    rw [sd_turn hs]
    have q := this.1 _ hs.flip
    rw [en_swp w hs.flip, hs.flip2] at q
    exact q
  srt := turn_srt h
  lk s hs p q hq := by
    rw [sd_turn hs] at hq
    refine (h.lk _ hs.flip p q hq).trans ?_
    have e : ((W.c.l.filter fun w => decide (en w (1 - s) = p)).map fun w => en w (1 - (1 - s))) = (((W.c.l.map swp).filter fun w => decide (en w s = p)).map fun w => en w (1 - s)) := by
      rw [List.filter_map, List.map_map]
      have : ((fun w => decide (en w s = (p : Int))) ∘ swp) = fun w => decide (en w (1 - s) = p) := by funext w; show decide (en (swp w) s = _) = _; rw [en_swp w hs]
      rw [this]
      apply List.map_congr_left
      intro w _
      show _ = en (swp w) (1 - s)
      rw [en_swp w hs.flip]
    rw [e]
    exact ((turn_perm.symm).filter _).map _
/-- the number in the world of a way of the turned one -/
def piW (W : Wd) (i : Nat) : Nat := W.c.l.findIdx fun w => decide (w = swp (wy (turnW W) i))
theorem piW_ok {i : Nat} (hi : i < nw W) : piW W i < nw W ∧ wy W (piW W i) = swp (wy (turnW W) i) := by
  have hm := turn_mem.mp (wy_mem (W := turnW W) (i := i) (by rw [nw_turn]; exact hi))
  have hl : piW W i < W.c.l.length := List.findIdx_lt_length_of_exists ⟨_, hm, decide_eq_true rfl⟩
  refine ⟨hl, ?_⟩
  have hp := List.findIdx_getElem (w := hl)
  have hp := of_decide_eq_true hp
  unfold wy
  rw [List.getD_eq_getElem?_getD, List.getElem?_eq_getElem hl]
  exact hp
theorem piW_inj {i j : Nat} (hi : i < nw W) (hj : j < nw W) (e : piW W i = piW W j) : i = j := by
  have h1 := (piW_ok h hi).2
  have h2 := (piW_ok h hj).2
  rw [e, h2] at h1
  have e2 : wy (turnW W) j = wy (turnW W) i := congrArg swp h1
  exact pair_inj (turn_ok h) (by rw [nw_turn]; exact hi) (by rw [nw_turn]; exact hj) (by rw [e2]) (by rw [e2])
theorem turn_iso : Iso (mk W) (mk (turnW W)) (piW W) := by
  have e1 : ∀ s, Sid s → ∀ i, i < nw W → (sdm (turnW W) s).e i = (sdm W (1 - s)).e (piW W i) := fun s hs i hi => by
    show (en (wy (turnW W) i) s).toNat = (en (wy W (piW W i)) (1 - s)).toNat
    rw [(piW_ok h hi).2, en_swp _ hs.flip, hs.flip2]
  have e2 : ∀ s, Sid s → ∀ i, i < nw W → (sdm (turnW W) s).rk i = (sdm W (1 - s)).rk (piW W i) := fun s hs i hi => by
    show (pl (turnW W) s (en (wy (turnW W) i) s).toNat).2.l.idxOf (en (wy (turnW W) i) (1 - s)) = (pl W (1 - s) (en (wy W (piW W i)) (1 - s)).toNat).2.l.idxOf (en (wy W (piW W i)) (1 - (1 - s)))
    rw [(piW_ok h hi).2, en_swp _ hs.flip, hs.flip2, en_swp _ hs, pl_turn hs]
  have e3 : ∀ s, Sid s → (sdm (turnW W) s).A = (sdm W (1 - s)).A := fun s hs => by
    funext p
    show (pl (turnW W) s p).1 = (pl W (1 - s) p).1
    rw [pl_turn hs]
  refine ⟨nw_turn, fun i hi => (piW_ok h hi).1, fun i j hi hj e => piW_inj h hi hj e, fun i hi => ?_, fun i hi => e1 0 (.inl rfl) i hi, fun i hi => e1 1 (.inr rfl) i hi, fun i hi => e2 0 (.inl rfl) i hi, fun i hi => e2 1 (.inr rfl) i hi, e3 0 (.inl rfl), e3 1 (.inr rfl)⟩
  show (wy (turnW W) i).c = (wy W (piW W i)).c
  rw [(piW_ok h hi).2]
  rfl
theorem turn_turn : turnW (turnW W) = W := by
  have e : sortF ((turnW W).c.l.map swp) = W.c.l := by
    refine sortF_eq ?_ (h.srt.imp fun {a b} hab => LeF_t3 hab)
    have := turn_perm (W := W).map swp
    rw [List.map_map] at this
    refine this.trans (.of_eq ?_)
    have : (swp ∘ swp) = id := by funext w; rfl
    rw [this, List.map_id]
  show (⟨W.a, W.b, ⟨sortF ((turnW W).c.l.map swp)⟩⟩ : Wd) = W
  rw [e]
theorem pi_pi {i : Nat} (hi : i < nw W) : piW W (piW (turnW W) i) = i := by
  have hT := turn_ok h
  have a := piW_ok hT (i := i) (by rw [nw_turn]; exact hi)
  rw [nw_turn, turn_turn h] at a
  have b := piW_ok h a.1
  refine pair_inj h b.1 hi ?_ ?_
  · rw [b.2, a.2]; rfl
  · rw [b.2, a.2]; rfl
theorem pi_pi' {i : Nat} (hi : i < nw W) : piW (turnW W) (piW W i) = i := by
  have := pi_pi (turn_ok h) (i := i) (by rw [nw_turn]; exact hi)
  rw [turn_turn h] at this
  exact this
theorem way_fl {w : Wy} (hw : w ∈ W.c.l) : (Fl.fl w).length = 3 ∧ ∀ i ∈ Fl.fl w, 0 ≤ i ∧ i < 64 := by
  refine ⟨rfl, fun i hi => ?_⟩
  have a0 := (h.wy w hw).1 0 (.inl rfl)
  have a1 := (h.wy w hw).1 1 (.inr rfl)
  have l0 := h.len 0 (.inl rfl)
  have l1 := h.len 1 (.inr rfl)
  have e0 : en w 0 = w.a := rfl
  have e1 : en w 1 = w.b := rfl
  have := (h.wy w hw).2
  have hi : i = w.a ∨ i = w.b ∨ i = w.c := by simpa [Fl.fl] using hi
  omega
theorem turned_ok : n_turned W = .ok (turnW W) := by
  have n16 := nw_le h (.inl rfl : Sid 0)
  simp only [n_turned, O2.f, OC.f, O1.f, SeqN.f, Ix.f, Sl.f, Un2.f, Un3.f, ok_bind, ex_bind, bad_bind, bind_asc, bind_okr, upR_refl, up_refl, upR_ok, upR_ex, up_D, up_some, up_none, up_nilL, up_nilT, oR_some, optB_some, nxE_nx, nxE_ret, em_D, id_eq, if_true_eq, if_false_eq, decide_eq_true_eq, Bool.not_true, Bool.not_false, ite_true_b, ite_false_b, Bool.true_and, Bool.and_true]
  rw [need_world_ok h, ok_bind, mapN_ok (e := fun p2 : Wy => R.ok (⟨p2.b, p2.a, p2.c⟩ : Wy)) (g := swp) fun _ _ => rfl, ok_bind]
  unfold sortN
  rw [gd_pos (okF_of 3 (by decide) (by rw [List.length_map]; unfold nw at n16; omega) fun x hx => by
    obtain ⟨w, hw, rfl⟩ := List.mem_map.mp hx
    have := way_fl h hw
    refine ⟨rfl, fun i hi => this.2 i ?_⟩
    have hi : i = w.b ∨ i = w.a ∨ i = w.c := by simpa [Fl.fl, swp] using hi
    show i ∈ [w.a, w.b, w.c]
    rcases hi with rfl | rfl | rfl <;> simp), ok_bind]
  rfl
/-- a plan of the turned world -/
def turnP (W : Wd) (x : List Int) : List Int := tab (nw W) fun i => val x (piW W i)
theorem val_turnP {x : List Int} {i : Nat} (hi : i < nw W) : val (turnP W x) i = val x (piW W i) := val_tab hi
theorem turned_plan_ok {x : List Int} (hx : POk W x) : n_turned_plan W ⟨x⟩ = .ok ⟨turnP W x⟩ := by
  have n16 := nw_le h (.inl rfl : Sid 0)
  have hT := turn_ok h
  simp only [n_turned_plan, O2.f, OC.f, O1.f, SeqN.f, Ix.f, Sl.f, Un2.f, Un3.f, ok_bind, ex_bind, bad_bind, bind_asc, bind_okr, upR_refl, up_refl, upR_ok, upR_ex, up_D, up_some, up_none, up_nilL, up_nilT, oR_some, optB_some, nxE_nx, nxE_ret, em_D, id_eq, if_true_eq, if_false_eq, decide_eq_true_eq, Bool.not_true, Bool.not_false, ite_true_b, ite_false_b, Bool.true_and, Bool.and_true]
  rw [need_plan_ok h hx, ok_bind]
  have ez : W.c.l.zip x = (List.range (nw W)).map fun i => (wy W i, val x i) := by
    have := zip_ways hx.l
    apply List.ext_getElem?
    intro i
    by_cases hi : i < nw W
    · rw [(List.getElem?_zip_eq_some (z := (wy W i, val x i))).mpr ⟨wy_get hi, val_get (by have := hx.l; omega)⟩]
      rw [List.getElem?_map, List.getElem?_range hi]
      rfl
    · rw [List.getElem?_eq_none (by simp; unfold nw at hi; omega), List.getElem?_eq_none (by simp; omega)]
  rw [ez, mapN_map, mapN_ok (g := fun i => (⟨(wy W i).b, (wy W i).a, val x i⟩ : Wy)) fun _ _ => rfl, ok_bind]
  have hp : ((List.range (nw W)).map fun i => (⟨(wy W i).b, (wy W i).a, val x i⟩ : Wy)).Perm ((List.range (nw W)).map fun i => (⟨(wy (turnW W) i).a, (wy (turnW W) i).b, val x (piW W i)⟩ : Wy)) := by
    have q := (perm_range (n := nw W) (π := piW W) (fun i hi => (piW_ok h hi).1) (fun i j hi hj e => piW_inj h hi hj e)).symm.map fun i => (⟨(wy W i).b, (wy W i).a, val x i⟩ : Wy)
    rw [List.map_map] at q
    refine q.trans (.of_eq (List.map_congr_left fun i hi => ?_))
    have := (piW_ok h (List.mem_range.mp hi)).2
    show (⟨(wy W (piW W i)).b, (wy W (piW W i)).a, val x (piW W i)⟩ : Wy) = _
    rw [this]
    rfl
  rw [sort_ok 3 (by decide) (by rw [List.length_map]; simp; omega) (fun y hy => by
    obtain ⟨i, hi, rfl⟩ := List.mem_map.mp hy
    have hi := List.mem_range.mp hi
    have := way_fl h (wy_mem hi)
    have hr := hx.f.r i hi
    have hl : (mk W).lim i = wlim W i := rfl
    have hl2 := lim_ok h hi
    refine ⟨rfl, fun k hk => ?_⟩
    have hk : k = (wy W i).b ∨ k = (wy W i).a ∨ k = val x i := by simpa [Fl.fl] using hk
    rcases hk with rfl | rfl | rfl
    · exact this.2 _ (by show _ ∈ [_, _, _]; simp)
    · exact this.2 _ (by show _ ∈ [_, _, _]; simp)
    · omega) hp (by
    rw [List.pairwise_map, List.pairwise_iff_getElem]
    intro i j hi hj hij
    have hj' : j < nw W := by simpa using hj
    have := srt_get hT hij (by rw [nw_turn]; exact hj')
    simp only [List.getElem_range]
    exact LeF_t3 this), ok_bind]
  rw [mapN_ok (g := fun w : Wy => w.c) fun _ _ => rfl, ok_bind, List.map_map]
  rfl
theorem turnP_pok {x : List Int} (hx : POk W x) : POk (turnW W) (turnP W x) := by
  refine ⟨by unfold turnP; rw [tab_length, nw_turn], ?_⟩
  have := (turn_iso h).feas hx.f
  exact ⟨fun i hi => by rw [val_turnP h (by rw [← nw_turn]; exact hi)]; exact this.r i hi, fun p => by
    rw [tot_congr (fun i hi => val_turnP h (x := x) (by rw [← nw_turn]; exact hi))]; exact this.g p, fun p => by
    rw [tot_congr (fun i hi => val_turnP h (x := x) (by rw [← nw_turn]; exact hi))]; exact this.t p⟩
theorem turnP_st {x : List Int} (hx : St (mk W) (val x)) : St (mk (turnW W)) (val (turnP W x)) :=
  St.congr (turn_ok h) ((turn_iso h).st hx) fun i hi => (val_turnP h (x := x) (by rw [← nw_turn]; exact hi)).symm
theorem turnP_turnP {x : List Int} (hl : x.length = nw W) : turnP (turnW W) (turnP W x) = x := by
  unfold turnP
  rw [nw_turn]
  have : tab (nw W) (fun i => val (tab (nw W) fun i => val x (piW W i)) (piW (turnW W) i)) = tab (nw W) (val x) := tab_congr fun i hi => by
    have a := (piW_ok (turn_ok h) (i := i) (by rw [nw_turn]; exact hi)).1
    rw [nw_turn] at a
    rw [val_tab a, pi_pi h hi]
  rw [this, tab_val hl]
/-- the takers' best plan -/
def tbest (W : Wd) : List Int := turnP (turnW W) (best (turnW W))
theorem takers_best_ok : n_takers_best W = .ok ⟨tbest W⟩ := by
  have hT := turn_ok h
  simp only [n_takers_best, O2.f, OC.f, O1.f, SeqN.f, Ix.f, Sl.f, Un2.f, Un3.f, ok_bind, ex_bind, bad_bind, bind_asc, bind_okr, upR_refl, up_refl, upR_ok, upR_ex, up_D, up_some, up_none, up_nilL, up_nilT, oR_some, optB_some, nxE_nx, nxE_ret, em_D, id_eq, if_true_eq, if_false_eq, decide_eq_true_eq, Bool.not_true, Bool.not_false, ite_true_b, ite_false_b, Bool.true_and, Bool.and_true]
  rw [turned_ok h, ok_bind, givers_best_ok hT, ok_bind, turned_plan_ok hT (best_pok hT)]
  rfl
theorem tbest_st : St (mk W) (val (tbest W)) := by
  have := turnP_st (turn_ok h) (best_st (turn_ok h))
  rw [turn_turn h] at this
  exact this
theorem tbest_pok : POk W (tbest W) := ⟨by unfold tbest turnP; rw [tab_length, nw_turn], (tbest_st h).toFeas⟩
theorem tbest_opt {y : Nat → Int} (hy : St (mk W) y) : ∀ i, i < nw W → Ch W 1 (mx (val (tbest W)) y) i = val (tbest W) i := fun i hi => by
  have hT := turn_ok h
  have I := turn_iso h
  have a := piW_ok hT (i := i) (by rw [nw_turn]; exact hi)
  rw [nw_turn] at a
  have o := best_opt hT (I.st hy) (piW (turnW W) i) (by rw [nw_turn]; exact a.1)
  have ev : ∀ j, j < nw W → val (tbest W) j = val (best (turnW W)) (piW (turnW W) j) := fun j hj => by
    unfold tbest
    exact val_turnP hT (by rw [nw_turn]; exact hj)
  rw [ev i hi, ← o]
  have e := I.CG (mx (val (tbest W)) y) a.1
  rw [pi_pi h hi] at e
  show C (nw W) (sdm W 1) (wlim W) (mx (val (tbest W)) y) i = C (nw (turnW W)) (sdm (turnW W) 0) (wlim (turnW W)) _ _
  rw [nw_turn]
  refine e.symm.trans ?_
  refine C_congr (fun j hj => ?_) a.1
  have b := (piW_ok h hj).1
  show max (val (tbest W) (piW W j)) (y (piW W j)) = max (val (best (turnW W)) j) (y (piW W j))
  rw [ev _ b, pi_pi' h hj]
end
end Lw

/-! Plans compared; drawn plans. -/
namespace Lw
open SF.Em (em)
open SF.Up (up)
open PySem SF Mt
section
variable {W : Wd}
theorem zip_vals {x y : List Int} {n : Nat} (hx : x.length = n) (hy : y.length = n) : x.zip y = (List.range n).map fun i => (val x i, val y i) := by
  apply List.ext_getElem?
  intro i
  by_cases hi : i < n
  · rw [(List.getElem?_zip_eq_some (z := (val x i, val y i))).mpr ⟨val_get (by omega), val_get (by omega)⟩]
    rw [List.getElem?_map, List.getElem?_range hi]
    rfl
  · rw [List.getElem?_eq_none (by simp; omega), List.getElem?_eq_none (by simp; omega)]
theorem greater_ok {x y : List Int} {n : Nat} (hx : x.length = n) (hy : y.length = n) : n_greater ⟨x⟩ ⟨y⟩ = .ok ⟨tab n (mx (val x) (val y))⟩ := by
  simp only [n_greater, O2.f, OC.f, O1.f, SeqN.f, Ix.f, Sl.f, Un2.f, Un3.f, ok_bind, ex_bind, bad_bind, bind_asc, bind_okr, upR_refl, up_refl, upR_ok, upR_ex, up_D, up_some, up_none, up_nilL, up_nilT, oR_some, optB_some, nxE_nx, nxE_ret, em_D, id_eq, if_true_eq, if_false_eq, decide_eq_true_eq, Bool.not_true, Bool.not_false, ite_true_b, ite_false_b, Bool.true_and, Bool.and_true]
  rw [zip_vals hx hy, mapN_map, mapN_ok (g := mx (val x) (val y)) (fun i _ => by
    congr 1
    dsimp only
    unfold mx
    split <;> omega)]
  rfl
theorem mx_nonneg {x y : Nat → Int} {n : Nat} (h : ∀ i, i < n → 0 ≤ x i) : ∀ i, i < n → 0 ≤ val (tab n (mx x y)) i := fun i hi => by
  have := h i hi
  rw [val_tab hi]
  unfold mx
  omega
variable (h : WOk W) {s : Int} (hs : Sid s)
include h hs
theorem own_ways_ok {p : Nat} (hp : p < (sd W s).length) {x : List Int} (hl : x.length = nw W) : n_own_ways W s (p : Int) ⟨x⟩ = .ok ⟨tab (nw W) fun j => if (sdm W s).e j = p then val x j else 0⟩ := by
  simp only [n_own_ways, O2.f, OC.f, O1.f, SeqN.f, Ix.f, Sl.f, Un2.f, Un3.f, ok_bind, ex_bind, bad_bind, bind_asc, bind_okr, upR_refl, up_refl, upR_ok, upR_ex, up_D, up_some, up_none, up_nilL, up_nilT, oR_some, optB_some, nxE_nx, nxE_ret, em_D, id_eq, if_true_eq, if_false_eq, decide_eq_true_eq, Bool.not_true, Bool.not_false, ite_true_b, ite_false_b, Bool.true_and, Bool.and_true]
  rw [ways_liked_ok h hs hp, ok_bind]
  rw [mapN_ok (g := fun q : Int × Int => if q.1 ∈ (liked W s p).map (fun i : Nat => (i : Int)) then q.2 else 0) (fun q _ => by split <;> rfl), ok_bind]
  congr 2
  apply List.ext_getElem?
  intro i
  rw [List.getElem?_map]
  by_cases hi : i < nw W
  · rw [enumN_get (val_get (by omega)), tab_get hi]
    show some (if ((i : Nat) : Int) ∈ _ then val x i else 0) = _
    congr 1
    have : ((i : Nat) : Int) ∈ (liked W s p).map (fun i : Nat => (i : Int)) ↔ (sdm W s).e i = p := by
      rw [List.mem_map]
      constructor
      · rintro ⟨j, hj, e⟩
        have : j = i := by omega
        subst this
        exact ((liked_mem h hs hp).mp hj).2
      · exact fun he => ⟨i, (liked_mem h hs hp).mpr ⟨hi, he⟩, rfl⟩
    by_cases c : (sdm W s).e i = p
    · rw [if_pos c, if_pos (this.mpr c)]
    · rw [if_neg c, if_neg (fun z => c (this.mp z))]
  · rw [List.getElem?_eq_none (by rw [enumN_length]; omega), List.getElem?_eq_none (by simp; omega)]
    rfl
/-- a place likes the one no less -/
def Lk (W : Wd) (s : Int) (p : Nat) (x y : Nat → Int) : Prop := ∀ i, i < nw W → (sdm W s).e i = p → Ch W s (mx x y) i = x i
def LkA (W : Wd) (s : Int) (x y : Nat → Int) : Prop := ∀ i, i < nw W → Ch W s (mx x y) i = x i
theorem likes_ok {p : Nat} (hp : p < (sd W s).length) {x y : List Int} (hx : POk W x) (hy : POk W y) : n_likes W s (p : Int) ⟨x⟩ ⟨y⟩ = .ok (dP (Lk W s p (val x) (val y))) := by
  simp only [n_likes, O2.f, OC.f, O1.f, SeqN.f, Ix.f, Sl.f, Un2.f, Un3.f, ok_bind, ex_bind, bad_bind, bind_asc, bind_okr, upR_refl, up_refl, upR_ok, upR_ex, up_D, up_some, up_none, up_nilL, up_nilT, oR_some, optB_some, nxE_nx, nxE_ret, em_D, id_eq, if_true_eq, if_false_eq, decide_eq_true_eq, Bool.not_true, Bool.not_false, ite_true_b, ite_false_b, Bool.true_and, Bool.and_true]
  rw [need_plan_ok h hx, ok_bind, need_plan_ok h hy, ok_bind, need_place_ok h hs hp, ok_bind, greater_ok hx.l hy.l, ok_bind, chosen_ok h hs hp (by simp) (mx_nonneg fun i hi => (hx.f.r i hi).1), ok_bind, own_ways_ok h hs hp hx.l, ok_bind]
  congr 1
  rw [← dP_dec]
  refine dP_congr ⟨fun e i hi he => ?_, fun e => ?_⟩
  · have e := tab_inj (congrArg Tp.l e) i hi
    rw [if_pos he, if_pos he, Ch_tab _ hi] at e
    exact e
  · congr 1
    refine tab_congr fun i hi => ?_
    by_cases c : (sdm W s).e i = p
    · rw [if_pos c, if_pos c, Ch_tab _ hi]; exact e i hi c
    · rw [if_neg c, if_neg c]
theorem all_like_ok {x y : List Int} (hx : POk W x) (hy : POk W y) : n_all_like W s ⟨x⟩ ⟨y⟩ = .ok (dP (LkA W s (val x) (val y))) := by
  obtain ⟨t, e1, e2⟩ := side_ok (W := W) hs
  simp only [n_all_like, O2.f, OC.f, O1.f, SeqN.f, Ix.f, Sl.f, Un2.f, Un3.f, ok_bind, ex_bind, bad_bind, bind_asc, bind_okr, upR_refl, up_refl, upR_ok, upR_ex, up_D, up_some, up_none, up_nilL, up_nilT, oR_some, optB_some, nxE_nx, nxE_ret, em_D, id_eq, if_true_eq, if_false_eq, decide_eq_true_eq, Bool.not_true, Bool.not_false, ite_true_b, ite_false_b, Bool.true_and, Bool.and_true]
  rw [need_plan_ok h hx, ok_bind, need_plan_ok h hy, ok_bind, e1, ok_bind, e2, range_ok (by have := (h.len s hs).2; omega), ok_bind, mapN_map, mapN_ok (g := fun p : Nat => dP (Lk W s p (val x) (val y))) (fun p hp => likes_ok h hs (List.mem_range.mp hp) hx hy), ok_bind, all_dP]
  congr 1
  refine dP_congr ⟨fun e i hi => ?_, fun e p hp => dP_t fun i hi _ => e i hi⟩
  exact dP_iff.mp (e ((sdm W s).e i) (List.mem_range.mpr (end_ok h hs hi).2)) i hi rfl
theorem together_ok {x y : List Int} (hx : POk W x) (hy : POk W y) : n_together W s ⟨x⟩ ⟨y⟩ = .ok ⟨tab (nw W) (Ch W s (mx (val x) (val y)))⟩ := by
  simp only [n_together, O2.f, OC.f, O1.f, SeqN.f, Ix.f, Sl.f, Un2.f, Un3.f, ok_bind, ex_bind, bad_bind, bind_asc, bind_okr, upR_refl, up_refl, upR_ok, upR_ex, up_D, up_some, up_none, up_nilL, up_nilT, oR_some, optB_some, nxE_nx, nxE_ret, em_D, id_eq, if_true_eq, if_false_eq, decide_eq_true_eq, Bool.not_true, Bool.not_false, ite_true_b, ite_false_b, Bool.true_and, Bool.and_true]
  rw [need_plan_ok h hx, ok_bind, need_plan_ok h hy, ok_bind, greater_ok hx.l hy.l, ok_bind, both_ends_ok h hs (by simp) (mx_nonneg fun i hi => (hx.f.r i hi).1)]
  congr 2
  exact tab_congr fun i hi => Ch_tab _ hi
theorem l_used_ok {x : List Int} (hl : x.length = nw W) (p : Nat) : n__law_used W ⟨x⟩ s (p : Int) = .ok (tot (nw W) (sdm W s) (val x) p) := used_ok h hs hl p
omit h hs
/-- within amounts -/
def Fits (W : Wd) (x : Nat → Int) : Prop := (∀ p, tot (nw W) (sdm W 0) x p ≤ (sdm W 0).A p) ∧ ∀ p, tot (nw W) (sdm W 1) x p ≤ (sdm W 1).A p
theorem fit_side (h : WOk W) {s : Int} (hs : Sid s) (x : Nat → Int) : (∀ p, tot (nw W) (sdm W s) x p ≤ (sdm W s).A p) ↔ ∀ p, p < (sd W s).length → tot (nw W) (sdm W s) x p ≤ (sdm W s).A p := by
  refine ⟨fun e p _ => e p, fun e p => ?_⟩
  by_cases hp : p < (sd W s).length
  · exact e p hp
  · have e0 : tot (nw W) (sdm W s) x p = 0 := by
      unfold tot
      rw [sm_congr (g := fun _ => 0), sm_zero]
      intro j hj
      exact if_neg fun z => hp (by have := (end_ok h hs hj).2; omega)
    rw [e0]
    exact (sdm_ok h hs).A p
theorem l_fits_ok (h : WOk W) {x : List Int} (hl : x.length = nw W) : n__law_fits W ⟨x⟩ = .ok (dP (Fits W (val x))) := by
  simp only [n__law_fits, O2.f, OC.f, O1.f, SeqN.f, Ix.f, Sl.f, Un2.f, Un3.f, ok_bind, ex_bind, bad_bind, bind_asc, bind_okr, upR_refl, up_refl, upR_ok, upR_ex, up_D, up_some, up_none, up_nilL, up_nilT, oR_some, optB_some, nxE_nx, nxE_ret, em_D, id_eq, if_true_eq, if_false_eq, decide_eq_true_eq, Bool.not_true, Bool.not_false, ite_true_b, ite_false_b, Bool.true_and, Bool.and_true]
  have r2 : rangeN 0 2 = .ok [0, 1] := range_ok (n := 2) (by decide)
  have hside : ∀ s, Sid s → (side3 W s >>= fun x_1 => forX (enumN x_1.l) () (fun st7 p14 => n__law_used W ⟨x⟩ s p14.1 >>= fun x => if p14.2.1 < x then R.ok (Nx.ret false) else R.ok (Nx.nx ())) >>= fun q24 => nxE q24 (fun st7 => R.ok (Nx.nx ())) Nx.ret) = (.ok (if dP (∀ p, tot (nw W) (sdm W s) (val x) p ≤ (sdm W s).A p) = true then Nx.nx () else Nx.ret false) : R (Nx Unit Bool)) := fun s hs => by
    obtain ⟨t, e1, e2⟩ := side_ok (W := W) hs
    rw [e1, ok_bind, e2, forX_ex (P := fun p : Int × Pl => decide (p.2.1 < tot (nw W) (sdm W s) (val x) p.1.toNat)) (r := false) (fun p hp => by
      obtain ⟨d, r, hd⟩ := List.append_of_mem hp
      obtain ⟨g1, g2, _⟩ := enumN_split hd
      rw [g1, l_used_ok h hs hl, ok_bind, Int.toNat_natCast]
      by_cases c : p.2.1 < tot (nw W) (sdm W s) (val x) d.length
      · rw [if_pos c, if_pos (decide_eq_true c)]
      · rw [if_neg c, if_neg (fun z => c (of_decide_eq_true z))]), ok_bind]
    by_cases c : ∀ p, tot (nw W) (sdm W s) (val x) p ≤ (sdm W s).A p
    · rw [dP_t c, dP_f]
      · rfl
      · rintro ⟨p, hp, hc⟩
        obtain ⟨d, r, hd⟩ := List.append_of_mem hp
        obtain ⟨g1, g2, _⟩ := enumN_split hd
        have hk : d.length < (sd W s).length := (List.getElem?_eq_some_iff.mp g2).1
        have hc := of_decide_eq_true hc
        rw [g1, Int.toNat_natCast] at hc
        have e3 : pl W s d.length = p.2 := Option.some.inj ((pl_get hk).symm.trans g2)
        have e4 : (sdm W s).A d.length = p.2.1 := by show (pl W s d.length).1 = _; rw [e3]
        have := c d.length
        omega
    · rw [dP_f c, dP_t]
      · rfl
      · have : ∃ p, p < (sd W s).length ∧ ¬ tot (nw W) (sdm W s) (val x) p ≤ (sdm W s).A p := Classical.byContradiction fun c2 => c ((fit_side h hs _).mpr fun p hp => Classical.byContradiction fun c3 => c2 ⟨p, hp, c3⟩)
        obtain ⟨p, hp, hn⟩ := this
        refine ⟨((p : Int), pl W s p), List.mem_of_getElem? (enumN_get (pl_get hp)), decide_eq_true ?_⟩
        rw [Int.toNat_natCast]
        have : (pl W s p).1 = (sdm W s).A p := rfl
        rw [this]
        omega
  rw [r2, ok_bind]
  unfold forX
  rw [hside 0 (.inl rfl), ok_bind]
  by_cases c0 : ∀ p, tot (nw W) (sdm W 0) (val x) p ≤ (sdm W 0).A p
  · rw [dP_t c0, if_pos rfl]
    dsimp only
    unfold forX
    rw [hside 1 (.inr rfl), ok_bind]
    by_cases c1 : ∀ p, tot (nw W) (sdm W 1) (val x) p ≤ (sdm W 1).A p
    · rw [dP_t c1, dP_t ⟨c0, c1⟩]; rfl
    · rw [dP_f c1, dP_f (fun z : Fits W (val x) => c1 z.2)]; rfl
  · rw [dP_f c0, dP_f (fun z : Fits W (val x) => c0 z.1)]; rfl
theorem val_append_zero (x : List Int) (k : Nat) : val (x ++ List.replicate k 0) = val x := by
  funext i
  unfold val
  rw [List.getD_eq_getElem?_getD, List.getD_eq_getElem?_getD]
  by_cases c : i < x.length
  · rw [List.getElem?_append_left c]
  · rw [List.getElem?_append_right (by omega), List.getElem?_eq_none (l := x) (by omega), List.getElem?_replicate]
    split <;> rfl
theorem val_snoc (x : List Int) (v : Int) (i : Nat) : val (x ++ [v]) i = if i = x.length then v else val x i := by
  unfold val
  rw [List.getD_eq_getElem?_getD, List.getD_eq_getElem?_getD]
  by_cases c : i < x.length
  · rw [List.getElem?_append_left c, if_neg (by omega)]
  · rw [List.getElem?_append_right (by omega), List.getElem?_eq_none (l := x) (by omega)]
    by_cases c2 : i = x.length
    · subst c2; simp
    · rw [if_neg c2, List.getElem?_eq_none (by simp; omega)]
/-- a drawn plan -/
theorem l_plan_ok (h : WOk W) {s : Scr} (hs : s.ns.length ≤ 63) (k : Int) : ∃ x, n__law_plan s k W = .ok ⟨x⟩ ∧ POk W x := by
  have n16 := nw_le h (.inl rfl : Sid 0)
  simp only [n__law_plan, O2.f, OC.f, O1.f, SeqN.f, Ix.f, Sl.f, Un2.f, Un3.f, ok_bind, ex_bind, bad_bind, bind_asc, bind_okr, upR_refl, up_refl, upR_ok, upR_ex, up_D, up_some, up_none, up_nilL, up_nilT, oR_some, optB_some, nxE_nx, nxE_ret, em_D, id_eq, if_true_eq, if_false_eq, decide_eq_true_eq, Bool.not_true, Bool.not_false, ite_true_b, ite_false_b, Bool.true_and, Bool.and_true]
  have z0 : Fits W (fun _ => 0) := by
    have : ∀ s, Sid s → ∀ p, tot (nw W) (sdm W s) (fun _ => 0) p ≤ (sdm W s).A p := fun s hs p => by
      have e0 : tot (nw W) (sdm W s) (fun _ => 0) p = 0 := by
        unfold tot
        rw [sm_congr (g := fun _ => 0), sm_zero]
        intro j hj
        split <;> rfl
      rw [e0]
      exact (sdm_ok h hs).A p
    exact ⟨this 0 (.inl rfl), this 1 (.inr rfl)⟩
  obtain ⟨⟨x⟩, e1, e2, e3, e4⟩ := forN_run (l := enumN W.c.l) (st := (⟨[]⟩ : Plan)) (f := fun st1 p8 => n__law_drawn s (k + p8.1) (p8.2.c + 1) >>= fun x => addTN st1 ⟨[x]⟩ >>= fun v_more => mulTN ⟨[0]⟩ ((W.c.l.length : Int) - (v_more.l.length : Int)) >>= fun x => addTN v_more x >>= fun x => n__law_fits W x >>= fun q37 => if q37 = true then R.ok v_more else addTN st1 ⟨[0]⟩)
    (fun d st => st.l.length = d.length ∧ (∀ i, i < d.length → 0 ≤ val st.l i ∧ val st.l i ≤ wlim W i) ∧ Fits W (val st.l)) ⟨rfl, fun i hi => absurd hi (Nat.not_lt_zero _), by
      have : val ([] : List Int) = fun _ => 0 := by funext i; rfl
      rw [this]; exact z0⟩ fun d y r st hd hI => by
      obtain ⟨st⟩ := st
      obtain ⟨i1, i2, i3⟩ := hI
      simp only [] at i1 i2 i3
      obtain ⟨g1, g2, _⟩ := enumN_split hd
      have hk : d.length < nw W := (List.getElem?_eq_some_iff.mp g2).1
      have hy : wy W d.length = y.2 := Option.some.inj ((wy_get hk).symm.trans g2)
      have hw := (h.wy _ (wy_mem hk)).2
      have hwl : wlim W d.length = y.2.c := by show (wy W d.length).c = _; rw [hy]
      rw [hy] at hw
      obtain ⟨q1, q2, q3⟩ := dr_ok hs (k + y.1) (m := y.2.c + 1) (by omega)
      generalize dr s (k + y.1) (y.2.c + 1) = v at q1 q2 q3
      have hrange : ∀ u, 0 ≤ u ∧ u ≤ y.2.c → ∀ i, i < (d ++ [y]).length → 0 ≤ val (st ++ [u]) i ∧ val (st ++ [u]) i ≤ wlim W i := fun u hu i hi => by
        rw [val_snoc]
        rw [List.length_append, List.length_singleton] at hi
        by_cases c : i = st.length
        · rw [if_pos c, c, i1, hwl]; exact hu
        · rw [if_neg c]; exact i2 i (by omega)
      have hz : ((W.c.l.length : Int) - ((st ++ [v]).length : Int)) = ((nw W - (d.length + 1) : Nat) : Int) := by
        rw [List.length_append, List.length_singleton, i1]
        unfold nw at hk ⊢
        omega
      rw [q1, ok_bind, addT_ok (by simp; omega), ok_bind]
      dsimp only
      rw [hz]
      unfold mulTN
      rw [rep_ok (by omega), ok_bind, ok_bind, addT_ok (by simp; omega), ok_bind]
      dsimp only
      rw [l_fits_ok h (by rw [List.length_append, List.length_append, List.length_replicate, List.length_singleton]; omega), ok_bind, val_append_zero]
      by_cases c : Fits W (val (st ++ [v]))
      · rw [dP_t c, if_pos rfl]
        exact ⟨_, rfl, by simp [i1], hrange v (by omega), c⟩
      · rw [dP_f c, if_neg Bool.false_ne_true, addT_ok (by simp; omega)]
        refine ⟨_, rfl, by simp [i1], hrange 0 (by omega), ?_⟩
        have := val_append_zero st 1
        simp only [List.replicate_one] at this
        dsimp only
        rw [this]
        exact i3
  rw [enumN_length] at e2 e3
  simp only [] at e2 e3 e4
  exact ⟨x, e1, e2, ⟨fun i hi => e3 i hi, e4.1, e4.2⟩⟩
end
end Lw

/-! What all plans at rest share. -/
namespace Lw
open SF.Em (em)
open SF.Up (up)
open PySem SF Mt
section
variable {W : Wd} (h : WOk W)
include h
theorem single_ok : n_is_single W = .ok (decide (best W = tbest W)) := by
  simp only [n_is_single, O2.f, OC.f, O1.f, SeqN.f, Ix.f, Sl.f, Un2.f, Un3.f, ok_bind, ex_bind, bad_bind, bind_asc, bind_okr, upR_refl, up_refl, upR_ok, upR_ex, up_D, up_some, up_none, up_nilL, up_nilT, oR_some, optB_some, nxE_nx, nxE_ret, em_D, id_eq, if_true_eq, if_false_eq, decide_eq_true_eq, Bool.not_true, Bool.not_false, ite_true_b, ite_false_b, Bool.true_and, Bool.and_true]
  rw [givers_best_ok h, ok_bind, takers_best_ok h, ok_bind]
  congr 1
  rw [Bool.eq_iff_iff, decide_eq_true_eq, decide_eq_true_eq]
  exact ⟨fun e => congrArg Tp.l e, fun e => by rw [e]⟩
theorem capped_steps_ok : (n_steps W >>= fun x => n_capped W x) = .ok ⟨endC W⟩ := by
  have n16 := nw_le h (.inl rfl : Sid 0)
  rw [steps_ok h, ok_bind, capped_ok (stepsM_rows h _ _ (lims_ok h)) (by omega)]
  rfl
theorem tot_same {x y : Nat → Int} (hx : St (mk W) x) (hy : St (mk W) y) {s : Int} (hs : Sid s) (p : Nat) : tot (nw W) (sdm W s) x p = tot (nw W) (sdm W s) y p := by
  obtain ⟨_, h2, h3⟩ := lattice (mk_ok h) hx hy
  by_cases hp : p < (sd W s).length
  · rcases hs with rfl | rfl
    · exact (h2 p hp).1
    · exact (h3 p hp).1
  · have e : ∀ z : Nat → Int, tot (nw W) (sdm W s) z p = 0 := fun z => by
      unfold tot
      rw [sm_congr (g := fun _ => 0), sm_zero]
      intro j hj
      exact if_neg fun q => hp (by have := (end_ok h hs hj).2; omega)
    rw [e, e]
theorem list_ext {x y : List Int} (hx : x.length = nw W) (hy : y.length = nw W) (e : ∀ i, i < nw W → val x i = val y i) : x = y := by
  rw [← tab_val hx, ← tab_val hy]
  exact tab_congr e
theorem single_unique (e : best W = tbest W) {x : List Int} (hl : x.length = nw W) (hx : St (mk W) (val x)) : x = best W := by
  refine list_ext h hl (best_pok h).l fun i hi => ?_
  refine unique_of (x := val x) (mk_ok h) (best_st h) hx (fun i hi => best_opt h hx i hi) (fun i hi => ?_) i hi
  have := tbest_opt h hx i hi
  rw [← e] at this
  exact this
end
end Lw

/-! All plans. -/
namespace Lw
open SF.Em (em)
open SF.Up (up)
open PySem SF Mt
/-- rows longer by one number each -/
def grow (found : List (List Int)) (l : Nat) : List (List Int) := (found.map fun row => (List.range (l + 1)).map fun m : Nat => row ++ [(m : Int)]).flatten
def allT (ls : List Nat) : List (List Int) := ls.foldl grow [[]]
def prodN (ls : List Nat) : Nat := ls.foldl (fun a l => a * (l + 1)) 1
theorem grow_length (found : List (List Int)) (l : Nat) : (grow found l).length = found.length * (l + 1) := by
  unfold grow
  induction found with
  | nil => simp
  | cons r f ih => rw [List.map_cons, List.flatten_cons, List.length_append, ih, List.length_map, List.length_range, List.length_cons, Nat.add_mul, Nat.one_mul]; omega
theorem allT_snoc (ls : List Nat) (l : Nat) : allT (ls ++ [l]) = grow (allT ls) l := by unfold allT; rw [List.foldl_append]; rfl
theorem prodN_snoc (ls : List Nat) (l : Nat) : prodN (ls ++ [l]) = prodN ls * (l + 1) := by unfold prodN; rw [List.foldl_append]; rfl
theorem snoc_ind {α : Type} {P : List α → Prop} (h0 : P []) (h1 : ∀ l x, P l → P (l ++ [x])) (l : List α) : P l := by
  rw [← List.reverse_reverse l]
  induction l.reverse with
  | nil => exact h0
  | cons x l ih => rw [List.reverse_cons]; exact h1 _ _ ih
theorem allT_length (ls : List Nat) : (allT ls).length = prodN ls := by
  induction ls using snoc_ind with
  | h0 => rfl
  | h1 ls l ih => rw [allT_snoc, prodN_snoc, grow_length, ih]
theorem prodN_le (ls ms : List Nat) : prodN ls ≤ prodN (ls ++ ms) := by
  induction ms using snoc_ind with
  | h0 => rw [List.append_nil]; exact Nat.le_refl _
  | h1 ms l ih =>
    rw [← List.append_assoc, prodN_snoc]
    exact Nat.le_trans ih (Nat.le_mul_of_pos_right _ (by omega))
theorem mem_allT (ls : List Nat) : ∀ x : List Int, x ∈ allT ls ↔ x.length = ls.length ∧ ∀ i, i < ls.length → 0 ≤ val x i ∧ val x i ≤ (ls.getD i 0 : Nat) := by
  induction ls using snoc_ind with
  | h0 =>
    intro x
    show x ∈ [[]] ↔ _
    rw [List.mem_singleton]
    constructor
    · rintro rfl; exact ⟨rfl, fun i hi => absurd hi (Nat.not_lt_zero _)⟩
    · rintro ⟨h, _⟩; exact List.eq_nil_of_length_eq_zero h
  | h1 ls l ih =>
    intro x
    rw [allT_snoc]
    unfold grow
    rw [List.mem_flatten]
    have gd : ∀ i, (ls ++ [l]).getD i 0 = if i = ls.length then l else ls.getD i 0 := fun i => by
      rw [List.getD_eq_getElem?_getD, List.getD_eq_getElem?_getD]
      by_cases c : i < ls.length
      · rw [List.getElem?_append_left c, if_neg (by omega)]
      · rw [List.getElem?_append_right (by omega), List.getElem?_eq_none (l := ls) (by omega)]
        by_cases c2 : i = ls.length
        · subst c2; simp
        · rw [if_neg c2, List.getElem?_eq_none (by simp; omega)]
    constructor
    · rintro ⟨r, hr, hx⟩
      obtain ⟨row, hrow, rfl⟩ := List.mem_map.mp hr
      obtain ⟨m, hm, rfl⟩ := List.mem_map.mp hx
      have hm := List.mem_range.mp hm
      obtain ⟨h1, h2⟩ := (ih row).mp hrow
      refine ⟨by simp [h1], fun i hi => ?_⟩
      rw [val_snoc, gd]
      rw [List.length_append, List.length_singleton] at hi
      by_cases c : i = ls.length
      · rw [if_pos (by omega), if_pos c]; omega
      · rw [if_neg (by omega), if_neg c]; exact h2 i (by omega)
    · rintro ⟨h1, h2⟩
      rw [List.length_append, List.length_singleton] at h1
      have hx : x = x.take ls.length ++ [val x ls.length] := by
        have := List.take_append_drop ls.length x
        have hd : x.drop ls.length = [val x ls.length] := by
          rw [List.drop_eq_getElem_cons (by omega), List.drop_of_length_le (by omega)]
          congr 1
          have := val_get (l := x) (i := ls.length) (by omega)
          rw [List.getElem?_eq_getElem (by omega)] at this
          exact Option.some.inj this
        rw [hd] at this
        exact this.symm
      have hlast := h2 ls.length (by simp)
      rw [gd, if_pos rfl] at hlast
      refine ⟨_, List.mem_map.mpr ⟨x.take ls.length, (ih _).mpr ⟨by rw [List.length_take]; omega, fun i hi => ?_⟩, rfl⟩, List.mem_map.mpr ⟨(val x ls.length).toNat, List.mem_range.mpr (by omega), ?_⟩⟩
      · have := h2 i (by rw [List.length_append, List.length_singleton]; omega)
        rw [gd, if_neg (by omega)] at this
        have e : val (x.take ls.length) i = val x i := by
          unfold val
          rw [List.getD_eq_getElem?_getD, List.getD_eq_getElem?_getD, List.getElem?_take_of_lt hi]
        rw [e]
        exact this
      · conv => rhs; rw [hx]
        congr 2
        omega
section
variable {W : Wd} (h : WOk W)
def limN (W : Wd) : List Nat := W.c.l.map fun w => w.c.toNat
/-- few enough -/
def Few (W : Wd) : Prop := prodN (limN W) ≤ 3000
noncomputable def plansM (W : Wd) : List (List Int) := (allT (limN W)).filter fun x => dP (POk W x)
noncomputable def restsM (W : Wd) : List (List Int) := (plansM W).filter fun x => (lvs W x).isEmpty
include h
theorem need_few_ok (hf : Few W) : n_need_few W = .ok () := by
  simp only [n_need_few, O2.f, OC.f, O1.f, SeqN.f, Ix.f, Sl.f, Un2.f, Un3.f, ok_bind, ex_bind, bad_bind, bind_asc, bind_okr, upR_refl, up_refl, upR_ok, upR_ex, up_D, up_some, up_none, up_nilL, up_nilT, oR_some, optB_some, nxE_nx, nxE_ret, em_D, id_eq, if_true_eq, if_false_eq, decide_eq_true_eq, Bool.not_true, Bool.not_false, ite_true_b, ite_false_b, Bool.true_and, Bool.and_true]
  rw [need_world_ok h, ok_bind]
  obtain ⟨st, e1, e2⟩ := forN_run (l := W.c.l) (st := (1 : Int)) (f := fun st2 (p4 : Wy) => mulN st2 (p4.c + 1)) (fun d st => st = (prodN (d.map fun w : Wy => w.c.toNat) : Nat)) rfl fun d w r st hd hI => by
    subst hI
    have hw := (h.wy w (by rw [hd]; simp)).2
    have hle := prodN_le (d.map fun w : Wy => w.c.toNat) ((w :: r).map fun w : Wy => w.c.toNat)
    rw [← List.map_append, ← hd] at hle
    have hf : prodN (W.c.l.map fun w : Wy => w.c.toNat) ≤ 3000 := hf
    refine ⟨_, mul_ok (by omega), ?_⟩
    rw [List.map_append, List.map_cons, List.map_nil, prodN_snoc, Int.natCast_mul]
    congr 1
    omega
  rw [e1, ok_bind, e2, if_neg]
  have hf : prodN (W.c.l.map fun w : Wy => w.c.toNat) ≤ 3000 := hf
  omega
theorem grow_ok {found : List (List Int)} {l : Int} (hl : 0 ≤ l ∧ l ≤ 9) (hs : ∀ r ∈ found, r.length ≤ 100) (hn : found.length * (l.toNat + 1) ≤ 3000) :
    forN (found.map fun r => (⟨r⟩ : Plan)) ([] : List Plan) (fun st9 p11 => rangeN 0 (l + 1) >>= fun x => mapN x (fun p17 => addTN p11 ⟨[p17]⟩) >>= fun q12 => extN st9 q12) = .ok ((grow found l.toNat).map fun r => (⟨r⟩ : Plan)) := by
  rw [forN_map]
  have e0 : l + 1 = ((l.toNat + 1 : Nat) : Int) := by omega
  obtain ⟨st, e1, e2⟩ := forN_run (l := found) (st := ([] : List Plan)) (f := fun st9 (p11 : List Int) => rangeN 0 (l + 1) >>= fun x => mapN x (fun p17 => addTN (⟨p11⟩ : Plan) ⟨[p17]⟩) >>= fun q12 => extN st9 q12)
    (fun d st => st = (grow d l.toNat).map fun r => (⟨r⟩ : Plan)) rfl fun d row r st hd hI => by
      subst hI
      have hrow := hs row (by rw [hd]; simp)
      refine ⟨_, ?_, rfl⟩
      have hg : grow (d ++ [row]) l.toNat = grow d l.toNat ++ (List.range (l.toNat + 1)).map fun m : Nat => row ++ [(m : Int)] := by
        unfold grow
        rw [List.map_append, List.flatten_append]
        simp
      have hlen : (grow (d ++ [row]) l.toNat).length ≤ 3000 := by
        rw [grow_length]
        refine Nat.le_trans (Nat.mul_le_mul_right _ ?_) hn
        rw [hd]; simp
      rw [hg, List.length_append] at hlen
      rw [e0, range_ok (by omega), ok_bind, mapN_map, mapN_ok (e := fun m : Nat => addTN (⟨row⟩ : Plan) ⟨[(m : Int)]⟩) (g := fun m : Nat => (⟨row ++ [(m : Int)]⟩ : Plan)) (fun m _ => addT_ok (by simp; omega)), ok_bind, ext_ok (by rw [List.length_map, List.length_map]; rw [List.length_map] at hlen; omega), hg, List.map_append, List.map_map]
      rfl
  rw [e1, e2]
theorem all_plans_ok (hf : Few W) : n_all_plans W = .ok ((plansM W).map fun x => ⟨x⟩) := by
  have n16 := nw_le h (.inl rfl : Sid 0)
  simp only [n_all_plans, O2.f, OC.f, O1.f, SeqN.f, Ix.f, Sl.f, Un2.f, Un3.f, ok_bind, ex_bind, bad_bind, bind_asc, bind_okr, upR_refl, up_refl, upR_ok, upR_ex, up_D, up_some, up_none, up_nilL, up_nilT, oR_some, optB_some, nxE_nx, nxE_ret, em_D, id_eq, if_true_eq, if_false_eq, decide_eq_true_eq, Bool.not_true, Bool.not_false, ite_true_b, ite_false_b, Bool.true_and, Bool.and_true]
  rw [need_few_ok h hf, ok_bind]
  obtain ⟨st, e1, e2⟩ := forN_run (l := W.c.l) (st := ([⟨[]⟩] : List Plan)) (f := fun st4 (p8 : Wy) => forN st4 [] (fun st9 p11 => rangeN 0 (p8.c + 1) >>= fun x => mapN x (fun p17 => addTN p11 ⟨[p17]⟩) >>= fun q12 => extN st9 q12))
    (fun d st => st = (allT (d.map fun w : Wy => w.c.toNat)).map fun r => (⟨r⟩ : Plan)) rfl fun d w r st hd hI => by
      subst hI
      have hw := (h.wy w (by rw [hd]; simp)).2
      have hle := prodN_le (d.map (fun w : Wy => w.c.toNat) ++ [w.c.toNat]) (r.map fun w : Wy => w.c.toNat)
      have hf : prodN (W.c.l.map fun w : Wy => w.c.toNat) ≤ 3000 := hf
      have e3 : d.map (fun w : Wy => w.c.toNat) ++ [w.c.toNat] ++ r.map (fun w : Wy => w.c.toNat) = W.c.l.map fun w : Wy => w.c.toNat := by rw [hd]; simp
      rw [e3, prodN_snoc] at hle
      have hdl : d.length ≤ nw W := by unfold nw; rw [hd]; simp
      refine ⟨_, grow_ok h (by omega) (fun q hq => ?_) (by rw [allT_length]; omega), ?_⟩
      · have := ((mem_allT _ q).mp hq).1
        rw [List.length_map] at this
        omega
      · rw [List.map_append, List.map_cons, List.map_nil, allT_snoc]
  rw [e1, ok_bind, e2]
  have e4 : allT (W.c.l.map fun w : Wy => w.c.toNat) = allT (limN W) := rfl
  rw [e4, lcN_ok (p := fun q : Plan => dP (POk W q.l)) (g := fun q => q) (fun q hq => by
    obtain ⟨r, _, rfl⟩ := List.mem_map.mp hq
    exact is_plan_ok h r) (fun _ _ _ => rfl), List.filter_map, List.map_map]
  rfl
theorem mem_plansM {x : List Int} : x ∈ plansM W ↔ POk W x := by
  unfold plansM
  rw [List.mem_filter, dP_iff, mem_allT]
  refine ⟨fun hx => hx.2, fun hx => ⟨⟨by rw [hx.l]; unfold limN nw; rw [List.length_map], fun i hi => ?_⟩, hx⟩⟩
  have hi' : i < nw W := by unfold limN at hi; rw [List.length_map] at hi; exact hi
  have := hx.f.r i hi'
  have e : (limN W).getD i 0 = (wlim W i).toNat := by
    unfold limN
    rw [List.getD_eq_getElem?_getD, List.getElem?_map, wy_get hi']
    rfl
  have hl : (mk W).lim i = wlim W i := rfl
  rw [e]
  omega
theorem all_rests_ok (hf : Few W) : n_all_rests W = .ok ((restsM W).map fun x => ⟨x⟩) := by
  simp only [n_all_rests, O2.f, OC.f, O1.f, SeqN.f, Ix.f, Sl.f, Un2.f, Un3.f, ok_bind, ex_bind, bad_bind, bind_asc, bind_okr, upR_refl, up_refl, upR_ok, upR_ex, up_D, up_some, up_none, up_nilL, up_nilT, oR_some, optB_some, nxE_nx, nxE_ret, em_D, id_eq, if_true_eq, if_false_eq, decide_eq_true_eq, Bool.not_true, Bool.not_false, ite_true_b, ite_false_b, Bool.true_and, Bool.and_true]
  rw [all_plans_ok h hf, ok_bind, lcN_ok (p := fun q : Plan => (lvs W q.l).isEmpty) (g := fun q => q) (fun q hq => by
    obtain ⟨r, hr, rfl⟩ := List.mem_map.mp hq
    exact rests_ok h ((mem_plansM h).mp hr)) (fun _ _ _ => rfl), List.filter_map, List.map_map]
  rfl
theorem mem_restsM {x : List Int} : x ∈ restsM W ↔ POk W x ∧ St (mk W) (val x) := by
  unfold restsM
  rw [List.mem_filter, mem_plansM h]
  constructor
  · rintro ⟨h1, h2⟩; exact ⟨h1, (rests_iff h h1).mp h2⟩
  · rintro ⟨h1, h2⟩; exact ⟨h1, (rests_iff h h1).mpr h2⟩
theorem best_mem : best W ∈ restsM W := (mem_restsM h).mpr ⟨best_pok h, best_st h⟩
theorem tbest_mem : tbest W ∈ restsM W := (mem_restsM h).mpr ⟨tbest_pok h, tbest_st h⟩
theorem plansM_le (hf : Few W) : (plansM W).length ≤ 3000 := by
  unfold plansM
  have := List.length_filter_le (fun x => dP (POk W x)) (allT (limN W))
  rw [allT_length] at this
  have hf : prodN (limN W) ≤ 3000 := hf
  omega
theorem restsM_le (hf : Few W) : (restsM W).length ≤ 3000 := by
  unfold restsM
  have := List.length_filter_le (fun x => (lvs W x).isEmpty) (plansM W)
  have := plansM_le h hf
  omega
end
theorem few_small {W : Wd} (h : Small W 7) : Few W := by
  have key : ∀ ls : List Nat, (∀ l ∈ ls, l ≤ 2) → prodN ls ≤ 3 ^ ls.length := fun ls => by
    induction ls using snoc_ind with
    | h0 => intro _; exact Nat.le_refl _
    | h1 ls l ih =>
      intro hl
      rw [prodN_snoc, List.length_append, List.length_singleton, Nat.pow_succ]
      exact Nat.mul_le_mul (ih fun m hm => hl m (List.mem_append_left _ hm)) (by have := hl l (by simp); omega)
  have hl : (limN W).length ≤ 7 := by
    have := h.nm
    unfold limN
    rw [List.length_map]
    unfold nw at this
    omega
  refine Nat.le_trans (key _ fun l hl => ?_) (Nat.le_trans (Nat.pow_le_pow_right (by decide) hl) (by decide))
  obtain ⟨w, hw, rfl⟩ := List.mem_map.mp hl
  have := h.l2 w hw
  omega
theorem Small.mono {W : Wd} {m m' : Int} (h : Small W m) (hm : m ≤ m') : Small W m' := ⟨h.toWOk, h.a3, h.l2, h.s3, Int.le_trans h.nm hm⟩
end Lw

/-! Totals, short ones, what is alike. -/
namespace Lw
open SF.Em (em)
open SF.Up (up)
open PySem SF Mt
theorem allT_nodup (ls : List Nat) : (allT ls).Nodup := by
  induction ls using snoc_ind with
  | h0 => simp [allT]
  | h1 ls l ih =>
    rw [allT_snoc]
    unfold grow
    rw [List.nodup_iff_pairwise_ne, List.pairwise_flatten]
    refine ⟨fun r hr => ?_, ?_⟩
    · obtain ⟨row, _, rfl⟩ := List.mem_map.mp hr
      rw [List.pairwise_map]
      exact (List.nodup_iff_pairwise_ne.mp List.nodup_range).imp fun {a b} hab e => hab (by
        have := List.append_cancel_left e
        simp at this
        omega)
    · rw [List.pairwise_map]
      refine (List.nodup_iff_pairwise_ne.mp ih).imp fun {a b} hab x hx y hy e => hab ?_
      obtain ⟨m, _, rfl⟩ := List.mem_map.mp hx
      obtain ⟨k, _, rfl⟩ := List.mem_map.mp hy
      exact (List.append_inj' e rfl).1
section
variable {W : Wd} (h : WOk W)
include h
theorem restsM_nodup : (restsM W).Nodup := by
  unfold restsM plansM
  exact ((allT_nodup (limN W)).filter _).filter _
theorem mapN_used {s : Int} (hs : Sid s) {x : List Int} (hl : x.length = nw W) {n : Nat} (hn : n ≤ 1000) : (rangeN 0 (n : Int) >>= fun l => mapN l fun p => n_used W ⟨x⟩ s p) = .ok (tab n (tot (nw W) (sdm W s) (val x))) := by
  rw [range_ok (by omega), ok_bind, mapN_map, mapN_ok (g := tot (nw W) (sdm W s) (val x)) (fun p _ => used_ok h hs hl p)]
  rfl
/-- totals of a side -/
def totL (W : Wd) (s : Int) : List Int := tab (sd W s).length (tot (nw W) (sdm W s) (val (best W)))
theorem totals_ok : n_totals W = .ok (⟨totL W 0⟩, ⟨totL W 1⟩) := by
  have l0 := h.len 0 (.inl rfl)
  have l1 := h.len 1 (.inr rfl)
  have a := mapN_used h (.inl rfl : Sid 0) (best_pok h).l (n := (sd W 0).length) (by omega)
  have b := mapN_used h (.inr rfl : Sid 1) (best_pok h).l (n := (sd W 1).length) (by omega)
  have e0 : W.a.l.length = (sd W 0).length := rfl
  have e1 : W.b.l.length = (sd W 1).length := rfl
  simp only [n_totals, O2.f, OC.f, O1.f, SeqN.f, Ix.f, Sl.f, Un2.f, Un3.f, ok_bind, ex_bind, bad_bind, bind_asc, bind_okr, upR_refl, up_refl, upR_ok, upR_ex, up_D, up_some, up_none, up_nilL, up_nilT, oR_some, optB_some, nxE_nx, nxE_ret, em_D, id_eq, if_true_eq, if_false_eq, decide_eq_true_eq, Bool.not_true, Bool.not_false, ite_true_b, ite_false_b, Bool.true_and, Bool.and_true]
  rw [givers_best_ok h, ok_bind, e0, e1]
  rw [range_ok (by omega), ok_bind] at a b
  rw [range_ok (by omega), ok_bind, a, ok_bind, range_ok (by omega), ok_bind, b, ok_bind]
  rfl
def shortM (W : Wd) (s : Int) : List Nat := (List.range (sd W s).length).filter fun p => decide (tot (nw W) (sdm W s) (val (best W)) p < (sdm W s).A p)
theorem short_ok {s : Int} (hs : Sid s) : n_short W s = .ok ((shortM W s).map fun p : Nat => (p : Int)) := by
  simp only [n_short, O2.f, OC.f, O1.f, SeqN.f, Ix.f, Sl.f, Un2.f, Un3.f, ok_bind, ex_bind, bad_bind, bind_asc, bind_okr, upR_refl, up_refl, upR_ok, upR_ex, up_D, up_some, up_none, up_nilL, up_nilT, oR_some, optB_some, nxE_nx, nxE_ret, em_D, id_eq, if_true_eq, if_false_eq, decide_eq_true_eq, Bool.not_true, Bool.not_false, ite_true_b, ite_false_b, Bool.true_and, Bool.and_true]
  rw [need_world_ok h, ok_bind, em_int, number_int, ok_bind, if_neg (by rcases hs with rfl | rfl <;> decide), totals_ok h, ok_bind]
  have e : side2 ((⟨totL W 0⟩ : Tp Int), (⟨totL W 1⟩ : Tp Int)) s = .ok ⟨totL W s⟩ := by rcases hs with rfl | rfl <;> rfl
  obtain ⟨t, e1, e2⟩ := side_ok (W := W) hs
  rw [e, ok_bind, e1]
  have e3 : enumN (totL W s) = (List.range (sd W s).length).map fun p : Nat => ((p : Int), tot (nw W) (sdm W s) (val (best W)) p) := by
    apply List.ext_getElem?
    intro i
    by_cases hi : i < (sd W s).length
    · rw [enumN_get (l := totL W s) (x := tot (nw W) (sdm W s) (val (best W)) i) (tab_get hi), List.getElem?_map, List.getElem?_range hi]
      rfl
    · rw [List.getElem?_eq_none (by rw [enumN_length]; unfold totL; simp; omega), List.getElem?_eq_none (by simp; omega)]
  dsimp only
  rw [e3, lcN_ok (p := fun q : Int × Int => decide (q.2 < (sdm W s).A q.1.toNat)) (g := fun q => q.1) (fun q hq => by
    obtain ⟨p, hp, rfl⟩ := List.mem_map.mp hq
    have hp := List.mem_range.mp hp
    rw [ok_bind, e2, atN_nat (pl_get hp), ok_bind, Int.toNat_natCast]
    rfl) (fun _ _ _ => rfl), List.filter_map, List.map_map]
  unfold shortM
  congr 1
/-- alike in all rows -/
noncomputable def alikeM (W : Wd) : List Nat := (List.range (nw W)).filter fun i => dP (∀ x, x ∈ restsM W → val x i = val (best W) i)
theorem rest0 : ∃ r l, restsM W = r :: l ∧ POk W r ∧ St (mk W) (val r) := by
  have hm := best_mem h
  cases hr : restsM W with
  | nil => rw [hr] at hm; cases hm
  | cons r l =>
    have := (mem_restsM h (x := r)).mp (by rw [hr]; exact List.mem_cons_self)
    exact ⟨r, l, rfl, this⟩
theorem atN_zero {α : Type} [Em α] (x : α) (l : List α) : atN (x :: l) 0 = .ok x := atN_nat (n := 0) rfl
theorem alike_r {r : List Int} (hr : r ∈ restsM W) {i : Nat} : (∀ x, x ∈ restsM W → val x i = val (best W) i) ↔ ∀ x, x ∈ restsM W → val x i = val r i := by
  constructor
  · intro e x hx; rw [e x hx, e r hr]
  · intro e x hx; rw [e x hx, e _ (best_mem h)]
theorem always_ok (hf : Few W) : n_always W = .ok ((alikeM W).map fun i : Nat => ((i : Int), val (best W) i)) := by
  have n16 := nw_le h (.inl rfl : Sid 0)
  obtain ⟨r, l, hr, p1, p2⟩ := rest0 h
  have hrm : r ∈ restsM W := by rw [hr]; exact List.mem_cons_self
  simp only [n_always, O2.f, OC.f, O1.f, SeqN.f, Ix.f, Sl.f, Un2.f, Un3.f, ok_bind, ex_bind, bad_bind, bind_asc, bind_okr, upR_refl, up_refl, upR_ok, upR_ex, up_D, up_some, up_none, up_nilL, up_nilT, oR_some, optB_some, nxE_nx, nxE_ret, em_D, id_eq, if_true_eq, if_false_eq, decide_eq_true_eq, Bool.not_true, Bool.not_false, ite_true_b, ite_false_b, Bool.true_and, Bool.and_true]
  rw [all_rests_ok h hf, ok_bind, show ((W.c.l.length : Nat) : Int) = (nw W : Int) from rfl, range_ok (by omega), ok_bind]
  have h0 : atN ((restsM W).map fun x => (⟨x⟩ : Plan)) 0 = .ok ⟨r⟩ := by rw [hr]; exact atN_zero h _ _
  obtain ⟨st, e1, e2⟩ := forN_nat (n := nw W) (st := ([] : List (Int × Int))) (f := fun st2 p5 => mapN ((restsM W).map fun x => (⟨x⟩ : Plan)) (fun p6 => atN p6.l p5 >>= fun q12 => atN ((restsM W).map fun x => (⟨x⟩ : Plan)) 0 >>= fun x => atN x.l p5 >>= fun q13 => R.ok (decide (q12 = q13))) >>= fun x => if x.all id = true then atN ((restsM W).map fun x => (⟨x⟩ : Plan)) 0 >>= fun x => atN x.l p5 >>= fun x => appN st2 (p5, x) else R.ok st2)
    (fun k st => st = ((List.range k).filter fun i => dP (∀ x, x ∈ restsM W → val x i = val (best W) i)).map fun i : Nat => ((i : Int), val (best W) i)) rfl fun k st hk hI => by
      subst hI
      rw [mapN_map, mapN_ok (g := fun x => decide (val x k = val r k)) (fun x hx => by
        have := ((mem_restsM h).mp hx).1.l
        rw [at_val (l := x) (by omega), ok_bind, h0, ok_bind, at_val (l := r) (by have := p1.l; omega), ok_bind]), ok_bind, all_dP, h0, ok_bind, at_val (l := r) (by have := p1.l; omega), ok_bind]
      have hlen : (((List.range k).filter fun i => dP (∀ x, x ∈ restsM W → val x i = val (best W) i)).map fun i : Nat => ((i : Int), val (best W) i)).length ≤ k := by
        rw [List.length_map]
        have := List.length_filter_le (fun i => dP (∀ x, x ∈ restsM W → val x i = val (best W) i)) (List.range k)
        simpa using this
      rw [List.range_succ, List.filter_append, List.map_append]
      by_cases c : ∀ x, x ∈ restsM W → val x k = val (best W) k
      · have c' := (alike_r h hrm).mp c
        rw [dP_t (fun x hx => decide_eq_true (c' x hx)), if_pos rfl, app_ok (by omega)]
        refine ⟨_, rfl, ?_⟩
        rw [List.filter_cons_of_pos (by exact dP_t c), List.map_cons, ← c r hrm]
        rfl
      · have c' : ¬ ∀ x, x ∈ restsM W → decide (val x k = val r k) = true := fun z => c ((alike_r h hrm).mpr fun x hx => of_decide_eq_true (z x hx))
        rw [dP_f c', if_neg Bool.false_ne_true]
        refine ⟨_, rfl, ?_⟩
        rw [List.filter_cons_of_neg (by rw [dP_f c]; decide)]
        simp
  rw [e1, e2]
  rfl
end
/-- with four ways at most two plans at rest are the same or differ everywhere -/
theorem differ_all {W : Wd} (h : WOk W) (h4 : nw W ≤ 4) {x y : Nat → Int} (hx : St (mk W) x) (hy : St (mk W) y) {i : Nat} (hi : i < nw W) (hd : x i ≠ y i) : ∀ j, j < nw W → x j ≠ y j := by
  have another : ∀ s, Sid s → ∀ i, i < nw W → x i ≠ y i → ∃ j, j < nw W ∧ j ≠ i ∧ (sdm W s).e j = (sdm W s).e i ∧ x j ≠ y j := fun s hs i hi hd => Classical.byContradiction fun c => by
    have ht := tot_same h hx hy hs ((sdm W s).e i)
    have : tot (nw W) (sdm W s) x ((sdm W s).e i) = tot (nw W) (sdm W s) y ((sdm W s).e i) + (x i - y i) := by
      unfold tot
      have := sm_set (n := nw W) (k := i) (f := fun j => if (sdm W s).e j = (sdm W s).e i then y j else 0) (g := fun j => if (sdm W s).e j = (sdm W s).e i then x j else 0) hi (fun j hj hne => by
        by_cases e : (sdm W s).e j = (sdm W s).e i
        · rw [if_pos e, if_pos e]
          exact Classical.byContradiction fun z => c ⟨j, hj, hne, e, z⟩
        · rw [if_neg e, if_neg e])
      simpa using this
    omega
  obtain ⟨i1, h1, n1, e1, d1⟩ := another 0 (.inl rfl) i hi hd
  obtain ⟨i2, h2, n2, e2, d2⟩ := another 1 (.inr rfl) i hi hd
  obtain ⟨i3, h3, n3, e3, d3⟩ := another 1 (.inr rfl) i1 h1 d1
  have inj : ∀ a b, a < nw W → b < nw W → (sdm W 0).e a = (sdm W 0).e b → (sdm W 1).e a = (sdm W 1).e b → a = b := fun a b ha hb ea eb => by
    have a0 := end_ok h (.inl rfl : Sid 0) ha
    have a1 := end_ok h (.inr rfl : Sid 1) ha
    have b0 := end_ok h (.inl rfl : Sid 0) hb
    have b1 := end_ok h (.inr rfl : Sid 1) hb
    refine en_inj h (.inl rfl : Sid 0) ha hb (by omega) ?_
    show en (wy W a) (1 - 0) = en (wy W b) (1 - 0)
    have : (1 : Int) - 0 = 1 := rfl
    rw [this]; omega
  have k12 : i1 ≠ i2 := fun q => n2 (inj i2 i h2 hi (by rw [← q]; exact e1) e2)
  have k01 : (sdm W 1).e i1 ≠ (sdm W 1).e i := fun q => n1 (inj i1 i h1 hi e1 q)
  have k30 : i3 ≠ i := fun q => k01 (by rw [← e3, q])
  have k32 : i3 ≠ i2 := fun q => k01 (by rw [← e3, q, e2])
  intro j hj
  have : j = i ∨ j = i1 ∨ j = i2 ∨ j = i3 := by omega
  rcases this with rfl | rfl | rfl | rfl
  · exact hd
  · exact d1
  · exact d2
  · exact d3
theorem nodup_le {n : Nat} : ∀ {l : List Int}, l.Nodup → (∀ x ∈ l, 0 ≤ x ∧ x < n) → l.length ≤ n := fun {l} nd hl => by
  have : l.length ≤ ((List.range n).map fun k : Nat => (k : Int)).length := nd.length_le_of_subset fun x hx => List.mem_map.mpr ⟨x.toNat, List.mem_range.mpr (by have := hl x hx; omega), by have := hl x hx; omega⟩
  simpa using this
theorem rests_few {W : Wd} (h : Small W 4) : (restsM W).length ≤ 3 := by
  have hw := h.toWOk
  have h4 : nw W ≤ 4 := by have := h.nm; omega
  have hm : ∀ x ∈ restsM W, POk W x ∧ St (mk W) (val x) := fun x hx => (mem_restsM hw).mp hx
  by_cases c : nw W = 0
  · have : (restsM W).length ≤ 1 := by
      have nd := restsM_nodup hw
      cases hr : restsM W with
      | nil => simp
      | cons a l => cases l with
        | nil => simp
        | cons b l =>
          exfalso
          rw [hr] at nd hm
          have ha := (hm a List.mem_cons_self).1.l
          have hb := (hm b (List.mem_cons_of_mem _ List.mem_cons_self)).1.l
          rw [c] at ha hb
          have ea := List.eq_nil_of_length_eq_zero ha
          have eb := List.eq_nil_of_length_eq_zero hb
          subst ea; subst eb
          simp at nd
    omega
  · have nd : ((restsM W).map fun x => val x 0).Nodup := by
      have key : ∀ l : List (List Int), l.Nodup → (∀ x ∈ l, POk W x ∧ St (mk W) (val x)) → (l.map fun x => val x 0).Nodup := fun l => by
        induction l with
        | nil => intro _ _; exact .nil
        | cons a l ih =>
          intro nd hm
          obtain ⟨n1, n2⟩ := List.nodup_cons.mp nd
          rw [List.map_cons]
          refine List.nodup_cons.mpr ⟨fun hc => ?_, ih n2 fun x hx => hm x (List.mem_cons_of_mem _ hx)⟩
          obtain ⟨b, hb, e⟩ := List.mem_map.mp hc
          have pa := hm a List.mem_cons_self
          have pb := hm b (List.mem_cons_of_mem _ hb)
          have : a = b := list_ext hw pa.1.l pb.1.l fun i hi => Classical.byContradiction fun hd => differ_all hw h4 pa.2 pb.2 hi hd 0 (by omega) e.symm
          exact n1 (this ▸ hb)
      exact key _ (restsM_nodup hw) hm
    have := nodup_le (n := 3) nd fun v hv => by
      obtain ⟨x, hx, rfl⟩ := List.mem_map.mp hv
      have hr := (hm x hx).1.f.r 0 (show 0 < nw W by omega)
      have hl : (mk W).lim 0 = wlim W 0 := rfl
      have := h.l2 _ (wy_mem (W := W) (i := 0) (by omega))
      have e : wlim W 0 = (wy W 0).c := rfl
      omega
    rwa [List.length_map] at this
end Lw
namespace Mt
theorem short_same {n : Nat} {d : Sd} (ok : d.Ok n) {lim x y : Nat → Int} (hl : ∀ i, i < n → 0 ≤ lim i) (hx : ∀ i, i < n → 0 ≤ x i ∧ x i ≤ lim i) (hy : ∀ i, i < n → 0 ≤ y i ∧ y i ≤ lim i) {p : Nat} (h1 : tot n d (C n d lim (mx x y)) p = tot n d x p) (h2 : tot n d x p < d.A p) : ∀ i, i < n → d.e i = p → x i = mx x y i := by
  have e := tot_C ok (o := mx x y) (lim := lim) (fun i hi => by have := hx i hi; unfold mx; omega) hl p
  have em : ∀ i, i < n → min (mx x y i) (lim i) = mx x y i := fun i hi => by have := hx i hi; have := hy i hi; unfold mx; omega
  rw [tot_congr em] at e
  have eq : tot n d (mx x y) p = tot n d x p := by omega
  intro i hi he
  have := sm_le_eq (f := fun j => if d.e j = p then x j else 0) (g := fun j => if d.e j = p then mx x y j else 0) (n := n) (fun j hj => by
    by_cases c : d.e j = p
    · rw [if_pos c, if_pos c]; unfold mx; omega
    · rw [if_neg c, if_neg c]; omega) (by show tot n d (mx x y) p ≤ tot n d x p; omega) i hi
  simpa [he] using this
end Mt
namespace Lw
open SF.Em (em)
open SF.Up (up)
open PySem SF Mt
theorem short_alike {W : Wd} (h : WOk W) {x y : Nat → Int} (hx : St (mk W) x) (hy : St (mk W) y) {s : Int} (hs : Sid s) {i : Nat} (hi : i < nw W) (hlt : tot (nw W) (sdm W s) x ((sdm W s).e i) < (sdm W s).A ((sdm W s).e i)) : x i = y i := by
  have key : ∀ {x y : Nat → Int}, St (mk W) x → St (mk W) y → tot (nw W) (sdm W s) x ((sdm W s).e i) < (sdm W s).A ((sdm W s).e i) → x i = mx x y i := fun {x y} hx hy hlt => by
    obtain ⟨_, l2, l3⟩ := lattice (mk_ok h) hx hy
    have hb := (end_ok h hs hi).2
    have ht : tot (nw W) (sdm W s) (C (nw W) (sdm W s) (wlim W) (mx x y)) ((sdm W s).e i) = tot (nw W) (sdm W s) x ((sdm W s).e i) := by
      rcases hs with rfl | rfl
      · exact (l2 _ hb).2
      · exact (l3 _ hb).2
    exact short_same (sdm_ok h hs) (mk_ok h).lim hx.r hy.r ht hlt i hi rfl
  have a := key hx hy hlt
  have b := key hy hx (by rw [← tot_same h hx hy hs]; exact hlt)
  rw [a, b, mx_comm]
end Lw

/-! Papers. -/
namespace Lw
open SF.Em (em)
open SF.Up (up)
open PySem SF Mt
section
variable {W : Wd} (h : WOk W)
/-- a row follows from caps -/
def RowOk (W : Wd) (caps : List Int) (r : Int × Int) : Prop := ∃ i : Nat, i < nw W ∧ r.1 = (i : Int) ∧ 0 ≤ r.2 ∧ r.2 ≤ 9 ∧ Ch W 1 (Ch W 0 (val caps)) i ≤ r.2 ∧ r.2 < Ch W 0 (val caps) i
noncomputable def hold (W : Wd) : List Int → List (Int × Int) → Option (List Int)
  | caps, [] => some caps
  | caps, r :: rows => if dP (RowOk W caps r) = true then hold W (low caps r) rows else none
theorem hold_capL : ∀ (rows : List (Int × Int)) (caps c : List Int), hold W caps rows = some c → c = capL caps rows
  | [], caps, c, e => by cases e; rfl
  | r :: rows, caps, c, e => by
    unfold hold at e
    split at e
    · exact hold_capL rows (low caps r) c e
    · cases e
theorem hold_snoc : ∀ (rows : List (Int × Int)) (caps : List Int) (r : Int × Int), hold W caps (rows ++ [r]) = (hold W caps rows).bind fun c => if dP (RowOk W c r) = true then some (low c r) else none
  | [], caps, r => rfl
  | q :: rows, caps, r => by
    rw [List.cons_append]
    unfold hold
    split
    · exact hold_snoc rows _ r
    · rfl
include h
theorem is_row_ok (a b : Int) : n_is_row W (em (a, b)) = .ok (decide (0 ≤ a ∧ a ≤ (nw W : Int) - 1) && decide (0 ≤ b ∧ b ≤ 9)) := by
  simp only [n_is_row, O2.f, OC.f, O1.f, SeqN.f, Ix.f, Sl.f, Un2.f, Un3.f, ok_bind, ex_bind, bad_bind, bind_asc, bind_okr, upR_refl, up_refl, upR_ok, upR_ex, up_D, up_some, up_none, up_nilL, up_nilT, oR_some, optB_some, nxE_nx, nxE_ret, em_D, id_eq, if_true_eq, if_false_eq, decide_eq_true_eq, Bool.not_true, Bool.not_false, ite_true_b, ite_false_b, Bool.true_and, Bool.and_true]
  have e1 : boolOf (op1D (.isInst .tuple) (em (a, b))) = .ok true := rfl
  have e2 : intOf (op1D .len (em (a, b))) = .ok 2 := rfl
  have e3 : op2D .idx (em (a, b)) (.int 0) = .ok (.int a) := rfl
  have e4 : op2D .idx (em (a, b)) (.int 1) = .ok (.int b) := rfl
  rw [need_world_ok h, ok_bind, e1, ok_bind, if_neg (by decide), e2, ok_bind, ok_bind, if_neg (by decide), e3, ok_bind, number_int, ok_bind, e4, ok_bind, number_int]
  show (if decide (0 ≤ a ∧ a ≤ (nw W : Int) - 1) = true then _ else _) = _
  cases decide (0 ≤ a ∧ a ≤ (nw W : Int) - 1) <;> rfl
theorem low_cok {caps : List Int} (hc : COk W caps) {r : Int × Int} (hr : RowOk W caps r) : COk W (low caps r) := by
  obtain ⟨i, hi, e, h0, _⟩ := hr
  have : r = ((i : Int), r.2) := Prod.ext e rfl
  rw [this]
  exact (low_ok hc hi h0).1
theorem hold_cok : ∀ (rows : List (Int × Int)) (caps c : List Int), COk W caps → hold W caps rows = some c → COk W c
  | [], caps, c, hc, e => by cases e; exact hc
  | r :: rows, caps, c, hc, e => by
    unfold hold at e
    by_cases hr : RowOk W caps r
    · rw [dP_t hr, if_pos rfl] at e
      exact hold_cok rows _ c (low_cok h hc hr) e
    · rw [dP_f hr, if_neg Bool.false_ne_true] at e; cases e
theorem hold_rows : ∀ (rows : List (Int × Int)) (caps c : List Int), hold W caps rows = some c → ∀ r ∈ rows, ∃ i : Nat, i < nw W ∧ r.1 = i
  | [], caps, c, e, r, hr => by cases hr
  | q :: rows, caps, c, e, r, hr => by
    unfold hold at e
    by_cases hq : RowOk W caps q
    · rw [dP_t hq, if_pos rfl] at e
      rcases List.mem_cons.mp hr with rfl | hr
      · obtain ⟨i, hi, e, _⟩ := hq; exact ⟨i, hi, e⟩
      · exact hold_rows rows _ c e r hr
    · rw [dP_f hq, if_neg Bool.false_ne_true] at e; cases e
theorem holds_ok (rows : List (Int × Int)) : n_holds W rows = .ok (hold W (lims W) rows).isSome := by
  have n16 := nw_le h (.inl rfl : Sid 0)
  simp only [n_holds, O2.f, OC.f, O1.f, SeqN.f, Ix.f, Sl.f, Un2.f, Un3.f, ok_bind, ex_bind, bad_bind, bind_asc, bind_okr, upR_refl, up_refl, upR_ok, upR_ex, up_D, up_some, up_none, up_nilL, up_nilT, oR_some, optB_some, nxE_nx, nxE_ret, em_D, id_eq, if_true_eq, if_false_eq, decide_eq_true_eq, Bool.not_true, Bool.not_false, ite_true_b, ite_false_b, Bool.true_and, Bool.and_true]
  have e1 : boolOf (op1D (.isInst .list) (em rows)) = .ok true := rfl
  rw [need_world_ok h, ok_bind, e1, ok_bind, if_neg (by decide), limits_ok, ok_bind]
  have key : ∀ (rows : List (Int × Int)) (caps : List Int), COk W caps → forX rows (⟨caps⟩ : Plan) (fun st5 p9 => n_is_row W (em p9) >>= fun x => if (!x) = true then R.ok (Nx.ret false) else n_both_ends W 0 st5 >>= fun v_offers => n_both_ends W 1 v_offers >>= fun v_some => atN v_some.l p9.1 >>= fun x => (if x ≤ p9.2 then atN v_offers.l p9.1 >>= fun q28 => R.ok (decide (p9.2 < q28)) else R.ok false) >>= fun x => if (!x) = true then R.ok (Nx.ret false) else n_lowered st5 p9.1 p9.2 >>= fun v_caps => R.ok (Nx.nx v_caps)) = .ok (match hold W caps rows with | some c => Nx.nx (⟨c⟩ : Plan) | none => Nx.ret false) := fun rows => by
    induction rows with
    | nil => intro caps _; rfl
    | cons r rows ih =>
      intro caps hc
      have ho : ∀ j, j < nw W → 0 ≤ val (tab (nw W) (Ch W 0 (val caps))) j := fun j hj => by rw [val_tab hj]; exact (Ch_le h (.inl rfl) hc.r hj).1
      unfold forX hold
      by_cases ha : (0 ≤ r.1 ∧ r.1 ≤ (nw W : Int) - 1) ∧ (0 ≤ r.2 ∧ r.2 ≤ 9)
      · rw [show em r = em (r.1, r.2) from rfl, is_row_ok h, decide_eq_true ha.1, decide_eq_true ha.2, ok_bind, if_neg (by decide)]
        obtain ⟨i, hi⟩ : ∃ i : Nat, r.1 = (i : Int) := ⟨r.1.toNat, by omega⟩
        have hin : i < nw W := by omega
        have g1 := at_val (l := tab (nw W) (Ch W 1 (val (tab (nw W) (Ch W 0 (val caps)))))) (n := i) (by simpa using hin)
        have g2 := at_val (l := tab (nw W) (Ch W 0 (val caps))) (n := i) (by simpa using hin)
        rw [val_tab hin, Ch_tab _ hin] at g1
        rw [val_tab hin] at g2
        rw [both_ends_ok h (.inl rfl) hc.l hc.r, ok_bind, both_ends_ok h (.inr rfl) (by simp) ho, ok_bind, hi]
        rw [g1, ok_bind, g2, ok_bind]
        have hiff : RowOk W caps r ↔ Ch W 1 (Ch W 0 (val caps)) i ≤ r.2 ∧ r.2 < Ch W 0 (val caps) i := by
          constructor
          · rintro ⟨j, hj, e, _, _, a, b⟩
            have : j = i := by omega
            subst this
            exact ⟨a, b⟩
          · rintro ⟨a, b⟩
            exact ⟨i, hin, hi, ha.2.1, ha.2.2, a, b⟩
        by_cases c1 : Ch W 1 (Ch W 0 (val caps)) i ≤ r.2
        · rw [if_pos c1, ok_bind]
          by_cases c2 : r.2 < Ch W 0 (val caps) i
          · have hr := hiff.mpr ⟨c1, c2⟩
            have er : r = ((i : Int), r.2) := Prod.ext hi rfl
            rw [decide_eq_true c2, if_neg (by decide), lowered_ok (by have := hc.l; omega) (by have := hc.l; omega), ok_bind, ok_bind, dP_t hr, if_pos rfl, ← er]
            exact ih (low caps r) (low_cok h hc hr)
          · rw [decide_eq_false c2, if_pos (by decide), dP_f (fun z => c2 (hiff.mp z).2), if_neg Bool.false_ne_true]
            rfl
        · rw [if_neg c1, ok_bind, if_pos (by decide), dP_f (fun z => c1 (hiff.mp z).1), if_neg Bool.false_ne_true]
          rfl
      · rw [show em r = em (r.1, r.2) from rfl, is_row_ok h, ok_bind, if_pos (by
          rw [Bool.not_eq_true', Bool.and_eq_false_iff, decide_eq_false_iff_not, decide_eq_false_iff_not]
          by_cases c : 0 ≤ r.1 ∧ r.1 ≤ (nw W : Int) - 1
          · exact .inr fun z => ha ⟨c, z⟩
          · exact .inl c), dP_f, if_neg Bool.false_ne_true]
        · rfl
        · rintro ⟨j, hj, e, a, b, _⟩
          exact ha ⟨⟨by omega, by omega⟩, a, b⟩
  rw [key rows (lims W) (lims_ok h), ok_bind]
  cases hold W (lims W) rows <;> rfl
theorem caps_of_ok (rows : List (Int × Int)) : n_caps_of W rows = .ok ((hold W (lims W) rows).map Tp.mk) := by
  have n16 := nw_le h (.inl rfl : Sid 0)
  simp only [n_caps_of, O2.f, OC.f, O1.f, SeqN.f, Ix.f, Sl.f, Un2.f, Un3.f, ok_bind, ex_bind, bad_bind, bind_asc, bind_okr, upR_refl, up_refl, upR_ok, upR_ex, up_D, up_some, up_none, up_nilL, up_nilT, oR_some, optB_some, nxE_nx, nxE_ret, em_D, id_eq, if_true_eq, if_false_eq, decide_eq_true_eq, Bool.not_true, Bool.not_false, ite_true_b, ite_false_b, Bool.true_and, Bool.and_true]
  rw [holds_ok h, ok_bind]
  cases hh : hold W (lims W) rows with
  | none => rfl
  | some c =>
    rw [hold_capL rows _ c hh]
    show (if true = true then _ else _) = _
    rw [if_pos rfl, capped_ok (hold_rows h rows _ c hh) (by omega)]
    rfl
theorem paper_ok : n_paper W = .ok (stepsM W 10000 (lims W)) := by
  simp only [n_paper, O2.f, OC.f, O1.f, SeqN.f, Ix.f, Sl.f, Un2.f, Un3.f, ok_bind, ex_bind, bad_bind, bind_asc, bind_okr, upR_refl, up_refl, upR_ok, upR_ex, up_D, up_some, up_none, up_nilL, up_nilT, oR_some, optB_some, nxE_nx, nxE_ret, em_D, id_eq, if_true_eq, if_false_eq, decide_eq_true_eq, Bool.not_true, Bool.not_false, ite_true_b, ite_false_b, Bool.true_and, Bool.and_true]
  rw [need_world_ok h, ok_bind, steps_ok h]
theorem shows_ok {x : List Int} (hx : POk W x) (rows : List (Int × Int)) : n_shows W ⟨x⟩ rows = .ok (match hold W (lims W) rows with | none => false | some c => (lvs W x).isEmpty && decide (tab (nw W) (Ch W 0 (val c)) = x)) := by
  have n16 := nw_le h (.inl rfl : Sid 0)
  simp only [n_shows, O2.f, OC.f, O1.f, SeqN.f, Ix.f, Sl.f, Un2.f, Un3.f, ok_bind, ex_bind, bad_bind, bind_asc, bind_okr, upR_refl, up_refl, upR_ok, upR_ex, up_D, up_some, up_none, up_nilL, up_nilT, oR_some, optB_some, nxE_nx, nxE_ret, em_D, id_eq, if_true_eq, if_false_eq, decide_eq_true_eq, Bool.not_true, Bool.not_false, ite_true_b, ite_false_b, Bool.true_and, Bool.and_true]
  rw [need_plan_ok h hx, ok_bind, holds_ok h, ok_bind]
  cases hh : hold W (lims W) rows with
  | none => rfl
  | some c =>
    show (if true = true then _ else _) = _
    have hc := hold_cok h rows _ c (lims_ok h) hh
    rw [if_pos rfl, rests_ok h hx, ok_bind, capped_ok (hold_rows h rows _ c hh) (by omega), ok_bind, ← hold_capL rows _ c hh, both_ends_ok h (.inl rfl) hc.l hc.r, ok_bind]
    have ed : decide ((⟨tab (nw W) (Ch W 0 (val c))⟩ : Tp Int) = ⟨x⟩) = decide (tab (nw W) (Ch W 0 (val c)) = x) := by
      rw [Bool.eq_iff_iff, decide_eq_true_eq, decide_eq_true_eq]
      exact ⟨fun e => congrArg Tp.l e, fun e => by rw [e]⟩
    rw [ed]
    cases (lvs W x).isEmpty <;> rfl
theorem is_within_ok {x caps : List Int} (hx : POk W x) (hc : caps.length = nw W) : n_is_within W (em (⟨x⟩ : Plan)) ⟨caps⟩ = .ok (dP (∀ i, i < nw W → val x i ≤ val caps i)) := by
  simp only [n_is_within, O2.f, OC.f, O1.f, SeqN.f, Ix.f, Sl.f, Un2.f, Un3.f, ok_bind, ex_bind, bad_bind, bind_asc, bind_okr, upR_refl, up_refl, upR_ok, upR_ex, up_D, up_some, up_none, up_nilL, up_nilT, oR_some, optB_some, nxE_nx, nxE_ret, em_D, id_eq, if_true_eq, if_false_eq, decide_eq_true_eq, Bool.not_true, Bool.not_false, ite_true_b, ite_false_b, Bool.true_and, Bool.and_true]
  rw [need_world_ok h, ok_bind, is_plan_yes h hx, ok_bind, if_pos rfl, seq_em, ok_bind]
  have ez : (List.map em x).zip caps = (List.range (nw W)).map fun i => ((em (val x i) : D), val caps i) := by
    rw [show (List.map em x).zip caps = (x.zip caps).map fun p => ((em p.1 : D), p.2) by rw [List.zip_map_left]; rfl, zip_vals hx.l hc, List.map_map]
    rfl
  show (mapN ((List.map em x).zip caps) _ >>= _) = _
  rw [ez, mapN_map, mapN_ok (e := fun i => leD (em (val x i)) (.int (val caps i))) (g := fun i => decide (val x i ≤ val caps i)) (fun i _ => rfl), ok_bind, all_dP]
  congr 1
  exact dP_congr ⟨fun e i hi => of_decide_eq_true (e i (List.mem_range.mpr hi)), fun e i hi => decide_eq_true (e i (List.mem_range.mp hi))⟩
/-- what steps make holds -/
theorem hold_steps : ∀ (n : Nat) (caps : List Int) (k : Nat), COk W caps → (∀ i, i < nw W → val caps i ≤ 9) → hold W caps ((stepsM W n caps).take k) = some (capL caps ((stepsM W n caps).take k))
  | 0, caps, k, _, _ => by unfold stepsM; rw [List.take_nil]; rfl
  | n + 1, caps, k, hc, h9 => by
    unfold stepsM
    cases hr : refM W caps with
    | none => dsimp only; rw [List.take_nil]; rfl
    | some r =>
      dsimp only
      cases k with
      | zero => rfl
      | succ k =>
        rw [List.take_succ_cons]
        obtain ⟨i, hi, he, h1, h2, h3⟩ := refM_some h hc hr
        have h9i := h9 i hi
        have hrow : RowOk W caps r := ⟨i, hi, by rw [he], h2, by omega, by rw [he]; exact Int.le_refl _, by rw [he]; exact h1⟩
        unfold hold
        rw [dP_t hrow, if_pos rfl]
        refine hold_steps n (low caps r) k (refM_low h hc hr).1 fun j hj => ?_
        have hv := val_low hc hi (c := r.2) j
        have er : r = ((i : Int), r.2) := by rw [he]
        rw [← er] at hv
        rw [hv]
        split
        · omega
        · exact h9 j hj
theorem lims9 : ∀ i, i < nw W → val (lims W) i ≤ 9 := fun i hi => by unfold lims; rw [val_tab hi]; exact (lim_ok h hi).2
/-- caps that a paper makes bound all plans at rest -/
theorem hold_inv : ∀ (rows : List (Int × Int)) (caps c : List Int), COk W caps → Inv (mk W) (val caps) → (∀ y, St (mk W) y → ∀ i, i < nw W → y i ≤ val caps i) → hold W caps rows = some c → Inv (mk W) (val c) ∧ ∀ y, St (mk W) y → ∀ i, i < nw W → y i ≤ val c i
  | [], caps, c, _, hi, hb, e => by cases e; exact ⟨hi, hb⟩
  | r :: rows, caps, c, hc, hi, hb, e => by
    unfold hold at e
    by_cases hr : RowOk W caps r
    · rw [dP_t hr, if_pos rfl] at e
      have hc' := low_cok h hc hr
      obtain ⟨i, hin, e1, h0, h9, a, b⟩ := hr
      have er : r = ((i : Int), r.2) := Prod.ext e1 rfl
      have hv : ∀ j, val (low caps r) j = if j = i then r.2 else val caps j := fun j => by
        have := val_low hc hin (c := r.2) j
        rw [← this, ← er]
      refine hold_inv rows (low caps r) c hc' (hi.step (mk_ok h) hin (fun j _ hne => by rw [hv, if_neg hne]) (by rw [hv, if_pos rfl]; exact a) (by rw [hv, if_pos rfl]; exact b)) (fun y hy j hj => ?_) e
      rw [hv]
      by_cases c1 : j = i
      · subst c1
        rw [if_pos rfl]
        have := paper_sound (mk_ok h) (fun i hi => hc.r i hi) hy (fun i hi => hb y hy i hi) hin (Int.lt_of_le_of_lt a b)
        exact Int.le_trans this a
      · rw [if_neg c1]; exact hb y hy j hj
    · rw [dP_f hr, if_neg Bool.false_ne_true] at e; cases e
end
end Lw

namespace Lw
open SF.Em (em)
open SF.Up (up)
open PySem SF
def b_law : S :=
  (.seq (.set 1 (.call "_law_world" f__law_world (.cons (.var 0) (.cons (.cst (.int 0)) (.cons (.cst (.int 9)) .nil)))))
    (.seq (.set 2 (.call "_law_plan" f__law_plan (.cons (.var 0) (.cons (.cst (.int 70)) (.cons (.var 1) .nil)))))
    (.seq (.set 3 (.call "paper" f_paper (.cons (.var 1) .nil)))
    (.seq (.set 4 (.tup (.cons (.call "givers_best" f_givers_best (.cons (.var 1) .nil)) (.cons (.call "takers_best" f_takers_best (.cons (.var 1) .nil)) .nil))))
    (.seq (.ifS (.orE (.op2 .ne (.var 3) (.call "steps" f_steps (.cons (.var 1) .nil))) (.orE (.notE (.call "is_within" f_is_within (.cons (.var 1) (.cons (.var 2) (.cons (.call "limits" f_limits (.cons (.var 1) .nil)) .nil))))) (.oneE (.op2 .ne (.call "caps_of" f_caps_of (.cons (.var 1) (.cons (.lst .nil) .nil))) (.call "limits" f_limits (.cons (.var 1) .nil))))))
    (.seq (.ret (.cst (.bool false)))
    .skip)
    .skip)
    (.seq (.set 5 (.call "limits" f_limits (.cons (.var 1) .nil)))
    (.seq (.forS [] (.name 6) (.itRange (.op2 .add (.op1 .len (.var 3)) (.cst (.int 1))))
    (.seq (.set 7 (.call "caps_of" f_caps_of (.cons (.var 1) (.cons (.op2 .to (.var 3) (.var 6)) .nil))))
    (.seq (.ifS (.orE (.op2 .is_ (.var 7) (.cst .none)) (.oneE (.op2 .ne (.var 7) (.call "capped" f_capped (.cons (.var 1) (.cons (.op2 .to (.var 3) (.var 6)) .nil))))))
    (.seq (.ret (.cst (.bool false)))
    .skip)
    .skip)
    (.seq (.ifS (.op2 .ne (.lc [8] (.name 8) (.itRange (.op1 .len (.var 7))) (.op2 .gt (.op2 .idx (.var 7) (.var 8)) (.op2 .idx (.var 5) (.var 8))) (.var 8)) (.lst .nil))
    (.seq (.ret (.cst (.bool false)))
    .skip)
    .skip)
    (.seq (.ifS (.op2 .ne (.lc [10] (.name 10) (.itSeq (.var 4)) (.notE (.call "is_within" f_is_within (.cons (.var 1) (.cons (.var 10) (.cons (.var 7) .nil))))) (.var 10)) (.lst .nil))
    (.seq (.ret (.cst (.bool false)))
    .skip)
    .skip)
    (.seq (.ifS (.andE (.call "is_within" f_is_within (.cons (.var 1) (.cons (.var 2) (.cons (.var 7) .nil)))) (.oneE (.notE (.call "is_within" f_is_within (.cons (.var 1) (.cons (.var 2) (.cons (.var 5) .nil)))))))
    (.seq (.ret (.cst (.bool false)))
    .skip)
    .skip)
    (.seq (.ifS (.op2 .ne (.call "refused" f_refused (.cons (.var 1) (.cons (.var 7) .nil))) (.op2 .idx (.op2 .add (.var 3) (.lst (.cons (.cst .none) .nil))) (.var 6)))
    (.seq (.ret (.cst (.bool false)))
    .skip)
    .skip)
    (.seq (.ifS (.op2 .ne (.call "shows" f_shows (.cons (.var 1) (.cons (.op2 .idx (.var 4) (.cst (.int 0))) (.cons (.op2 .to (.var 3) (.var 6)) .nil)))) (.op2 .eq (.var 6) (.op1 .len (.var 3))))
    (.seq (.ret (.cst (.bool false)))
    .skip)
    .skip)
    (.seq (.ifS (.andE (.call "shows" f_shows (.cons (.var 1) (.cons (.op2 .idx (.var 4) (.cst (.int 1))) (.cons (.op2 .to (.var 3) (.var 6)) .nil)))) (.oneE (.op2 .ne (.op2 .idx (.var 4) (.cst (.int 0))) (.op2 .idx (.var 4) (.cst (.int 1))))))
    (.seq (.ret (.cst (.bool false)))
    .skip)
    .skip)
    (.seq (.set 5 (.var 7))
    .skip))))))))))
    (.seq (.forS [] (.name 8) (.itRange (.op1 .len (.op2 .idx (.var 1) (.cst (.int 2)))))
    (.seq (.set 9 (.call "lowered" f_lowered (.cons (.var 5) (.cons (.var 8) (.cons (.op2 .max2 (.cst (.int 0)) (.op2 .sub (.op2 .idx (.var 5) (.var 8)) (.cst (.int 1)))) .nil)))))
    (.seq (.ifS (.andE (.call "is_within" f_is_within (.cons (.var 1) (.cons (.var 2) (.cons (.var 9) .nil)))) (.oneE (.notE (.call "is_within" f_is_within (.cons (.var 1) (.cons (.var 2) (.cons (.var 5) .nil)))))))
    (.seq (.ret (.cst (.bool false)))
    .skip)
    .skip)
    (.seq (.ifS (.call "holds" f_holds (.cons (.var 1) (.cons (.op2 .add (.var 3) (.lst (.cons (.tup (.cons (.var 8) (.cons (.op2 .idx (.var 5) (.var 8)) .nil))) .nil))) .nil)))
    (.seq (.ret (.cst (.bool false)))
    .skip)
    .skip)
    .skip))))
    (.seq (.ret (.orE (.notE (.call "shows" f_shows (.cons (.var 1) (.cons (.var 2) (.cons (.var 3) .nil))))) (.oneE (.call "rests" f_rests (.cons (.var 1) (.cons (.var 2) .nil))))))
    .skip)))))))))
def f_law : Fn := fnD 1 11 b_law
noncomputable def n_law (v_script : Scr) : R (Bool) :=
  (((upR (R.ok v_script) : R (Scr)) >>= fun q1 => (upR (R.ok (0 : Int)) : R (Int)) >>= fun q2 => (upR (R.ok (9 : Int)) : R (Int)) >>= fun q3 => n__law_world q1 q2 q3) >>= fun v_world_here =>
  (((upR (R.ok v_script) : R (Scr)) >>= fun q4 => (upR (R.ok (70 : Int)) : R (Int)) >>= fun q5 => (upR (R.ok v_world_here) : R (Wd)) >>= fun q6 => n__law_plan q4 q5 q6) >>= fun v_plan_here =>
  (((upR (R.ok v_world_here) : R (Wd)) >>= n_paper) >>= fun v_rows =>
  ((((upR (R.ok v_world_here) : R (Wd)) >>= n_givers_best) >>= fun q10 => ((upR (R.ok v_world_here) : R (Wd)) >>= n_takers_best) >>= fun q11 => R.ok ((q10, q11))) >>= fun v_best =>
  ((((R.ok v_rows) >>= fun q13 => ((upR (R.ok v_world_here) : R (Wd)) >>= n_steps) >>= fun q14 => O2.f .ne q13 q14) >>= fun q26 => if q26 then R.ok true else ((((upR (R.ok v_world_here) : R (Wd)) >>= fun q16 => (upR (R.ok v_plan_here) : R (D)) >>= fun q17 => (upR ((upR (R.ok v_world_here) : R (Wd)) >>= n_limits) : R (Plan)) >>= fun q18 => n_is_within q16 q17 q18) >>= fun q19 => R.ok (!q19)) >>= fun q25 => if q25 then R.ok true else (((upR (R.ok v_world_here) : R (Wd)) >>= fun q20 => (upR (R.ok NilL.v) : R (List (Int × Int))) >>= fun q21 => n_caps_of q20 q21) >>= fun q23 => ((upR (R.ok v_world_here) : R (Wd)) >>= n_limits) >>= fun q24 => O2.f .ne q23 q24))) >>= fun q27 => if q27 then (upR (R.ok false) : R (Bool))
  else (((upR (R.ok v_world_here) : R (Wd)) >>= n_limits) >>= fun v_ahead =>
  (((((R.ok v_rows) >>= O1.f .len) >>= fun q32 => (R.ok (1 : Int)) >>= fun q33 => O2.f .add q32 q33) >>= fun q34 => rangeN 0 q34) >>= fun q162 => forX (ρ := Bool) q162 v_ahead (fun st29 p35 =>
  (((upR (R.ok v_world_here) : R (Wd)) >>= fun q38 => (upR ((R.ok v_rows) >>= fun q36 => (R.ok p35) >>= fun q37 => O2.f .to q36 q37) : R (List (Int × Int))) >>= fun q39 => n_caps_of q38 q39) >>= fun v_caps =>
  ((((R.ok v_caps) >>= fun q40 => (R.ok NoneV.v) >>= fun q41 => O2.f .is_ q40 q41) >>= fun q48 => if q48 then R.ok true else ((R.ok v_caps) >>= fun q46 => ((upR (R.ok v_world_here) : R (Wd)) >>= fun q44 => (upR ((R.ok v_rows) >>= fun q42 => (R.ok p35) >>= fun q43 => O2.f .to q42 q43) : R (List (Int × Int))) >>= fun q45 => n_capped q44 q45) >>= fun q47 => O2.f .ne q46 q47)) >>= fun q49 => if q49 then ((upR (R.ok false) : R (Bool)) >>= fun q50 => R.ok (Nx.ret q50))
  else (((((((R.ok v_caps) >>= oR) >>= O1.f .len) >>= fun q51 => rangeN 0 q51) >>= fun q53 => lcN q53 (fun p52 => ((((R.ok v_caps) >>= oR) >>= fun q54 => (R.ok p52) >>= fun q55 => O2.f .idx q54 q55) >>= fun q58 => ((R.ok st29) >>= fun q56 => (R.ok p52) >>= fun q57 => O2.f .idx q56 q57) >>= fun q59 => O2.f .gt q58 q59)) (fun p52 => (R.ok p52))) >>= fun q60 => (R.ok NilL.v) >>= fun q61 => O2.f .ne q60 q61) >>= fun q62 => if q62 then ((upR (R.ok false) : R (Bool)) >>= fun q63 => R.ok (Nx.ret q63))
  else (((((R.ok v_best) >>= SeqN.f) >>= fun q65 => lcN q65 (fun p64 => (((upR (R.ok v_world_here) : R (Wd)) >>= fun q66 => (upR (R.ok p64) : R (D)) >>= fun q67 => (upR ((R.ok v_caps) >>= oR) : R (Plan)) >>= fun q68 => n_is_within q66 q67 q68) >>= fun q69 => R.ok (!q69))) (fun p64 => (R.ok p64))) >>= fun q70 => (R.ok NilL.v) >>= fun q71 => O2.f .ne q70 q71) >>= fun q72 => if q72 then ((upR (R.ok false) : R (Bool)) >>= fun q73 => R.ok (Nx.ret q73))
  else ((((upR (R.ok v_world_here) : R (Wd)) >>= fun q74 => (upR (R.ok v_plan_here) : R (D)) >>= fun q75 => (upR ((R.ok v_caps) >>= oR) : R (Plan)) >>= fun q76 => n_is_within q74 q75 q76) >>= fun q81 => if q81 then (((upR (R.ok v_world_here) : R (Wd)) >>= fun q77 => (upR (R.ok v_plan_here) : R (D)) >>= fun q78 => (upR (R.ok st29) : R (Plan)) >>= fun q79 => n_is_within q77 q78 q79) >>= fun q80 => R.ok (!q80)) else R.ok false) >>= fun q82 => if q82 then ((upR (R.ok false) : R (Bool)) >>= fun q83 => R.ok (Nx.ret q83))
  else ((((upR (R.ok v_world_here) : R (Wd)) >>= fun q84 => (upR ((R.ok v_caps) >>= oR) : R (Plan)) >>= fun q85 => n_refused q84 q85) >>= fun q92 => (((upR (R.ok v_rows) : R (List (Option (Int × Int)))) >>= fun q88 => ((upR (R.ok NoneV.v) : R (Option (Int × Int))) >>= fun q86 => (R.ok []) >>= fun q87 => R.ok (q86 :: q87)) >>= fun q89 => O2.f .add q88 q89) >>= fun q90 => (R.ok p35) >>= fun q91 => O2.f .idx q90 q91) >>= fun q93 => O2.f .ne q92 q93) >>= fun q94 => if q94 then ((upR (R.ok false) : R (Bool)) >>= fun q95 => R.ok (Nx.ret q95))
  else ((((upR (R.ok v_world_here) : R (Wd)) >>= fun q98 => (upR ((R.ok v_best) >>= OC.f .idx 0) : R (Plan)) >>= fun q99 => (upR ((R.ok v_rows) >>= fun q96 => (R.ok p35) >>= fun q97 => O2.f .to q96 q97) : R (List (Int × Int))) >>= fun q100 => n_shows q98 q99 q100) >>= fun q103 => ((R.ok p35) >>= fun q101 => ((R.ok v_rows) >>= O1.f .len) >>= fun q102 => O2.f .eq q101 q102) >>= fun q104 => O2.f .ne q103 q104) >>= fun q105 => if q105 then ((upR (R.ok false) : R (Bool)) >>= fun q106 => R.ok (Nx.ret q106))
  else ((((upR (R.ok v_world_here) : R (Wd)) >>= fun q109 => (upR ((R.ok v_best) >>= OC.f .idx 1) : R (Plan)) >>= fun q110 => (upR ((R.ok v_rows) >>= fun q107 => (R.ok p35) >>= fun q108 => O2.f .to q107 q108) : R (List (Int × Int))) >>= fun q111 => n_shows q109 q110 q111) >>= fun q114 => if q114 then (((R.ok v_best) >>= OC.f .idx 0) >>= fun q112 => ((R.ok v_best) >>= OC.f .idx 1) >>= fun q113 => O2.f .ne q112 q113) else R.ok false) >>= fun q115 => if q115 then ((upR (R.ok false) : R (Bool)) >>= fun q116 => R.ok (Nx.ret q116))
  else (((R.ok v_caps) >>= oR) >>= fun v_ahead =>
  (R.ok (Nx.nx v_ahead)))))))))))) >>= fun q163 => nxE q163 (fun st29 =>
  (((((R.ok v_world_here) >>= OC.f .idx 2) >>= O1.f .len) >>= fun q120 => rangeN 0 q120) >>= fun q160 => forX (ρ := Bool) q160 () (fun st117 p121 =>
  (((upR (R.ok st29) : R (Plan)) >>= fun q128 => (upR (R.ok p121) : R (Int)) >>= fun q129 => (upR ((R.ok (0 : Int)) >>= fun q126 => (((R.ok st29) >>= fun q122 => (R.ok p121) >>= fun q123 => O2.f .idx q122 q123) >>= fun q124 => (R.ok (1 : Int)) >>= fun q125 => O2.f .sub q124 q125) >>= fun q127 => O2.f .max2 q126 q127) : R (Int)) >>= fun q130 => n_lowered q128 q129 q130) >>= fun v_less =>
  ((((upR (R.ok v_world_here) : R (Wd)) >>= fun q131 => (upR (R.ok v_plan_here) : R (D)) >>= fun q132 => (upR (R.ok v_less) : R (Plan)) >>= fun q133 => n_is_within q131 q132 q133) >>= fun q138 => if q138 then (((upR (R.ok v_world_here) : R (Wd)) >>= fun q134 => (upR (R.ok v_plan_here) : R (D)) >>= fun q135 => (upR (R.ok st29) : R (Plan)) >>= fun q136 => n_is_within q134 q135 q136) >>= fun q137 => R.ok (!q137)) else R.ok false) >>= fun q139 => if q139 then ((upR (R.ok false) : R (Bool)) >>= fun q140 => R.ok (Nx.ret q140))
  else (((upR (R.ok v_world_here) : R (Wd)) >>= fun q149 => (upR ((R.ok v_rows) >>= fun q147 => (((R.ok p121) >>= fun q143 => ((R.ok st29) >>= fun q141 => (R.ok p121) >>= fun q142 => O2.f .idx q141 q142) >>= fun q144 => R.ok ((q143, q144))) >>= fun q145 => (R.ok []) >>= fun q146 => R.ok (q145 :: q146)) >>= fun q148 => O2.f .add q147 q148) : R (List (Int × Int))) >>= fun q150 => n_holds q149 q150) >>= fun q151 => if q151 then ((upR (R.ok false) : R (Bool)) >>= fun q152 => R.ok (Nx.ret q152))
  else (R.ok (Nx.nx ())))))) >>= fun q161 => nxE q161 (fun st117 =>
  (upR ((((upR (R.ok v_world_here) : R (Wd)) >>= fun q153 => (upR (R.ok v_plan_here) : R (Plan)) >>= fun q154 => (upR (R.ok v_rows) : R (List (Int × Int))) >>= fun q155 => n_shows q153 q154 q155) >>= fun q156 => R.ok (!q156)) >>= fun q159 => if q159 then R.ok true else ((upR (R.ok v_world_here) : R (Wd)) >>= fun q157 => (upR (R.ok v_plan_here) : R (Plan)) >>= fun q158 => n_rests q157 q158)) : R (Bool))) id)) id)))))))
theorem r_law (v_script : Scr) : Ref (f_law [em v_script]) (n_law v_script) := by
  delta f_law b_law n_law
  exact r_fn rfl (j_env (s' := [some (em v_script), none, none, none, none, none, none, none, none, none, none]) rfl
  (j_seq (j_set (r_call3 r__law_world (ref_up (r_var rfl)) (ref_up (r_int _)) (ref_up (r_int _))) fun v_world_here =>
  (j_env (s' := [some (em v_script), some (em v_world_here), none, none, none, none, none, none, none, none, none]) rfl (j_seq (j_set (r_call3 r__law_plan (ref_up (r_var rfl)) (ref_up (r_int _)) (ref_up (r_var rfl))) fun v_plan_here =>
  (j_env (s' := [some (em v_script), some (em v_world_here), some (em v_plan_here), none, none, none, none, none, none, none, none]) rfl (j_seq (j_set (r_call1 r_paper (ref_up (r_var rfl))) fun v_rows =>
  (j_env (s' := [some (em v_script), some (em v_world_here), some (em v_plan_here), some (em v_rows), none, none, none, none, none, none, none]) rfl (j_seq (j_set (r_tup2 (r_call1 r_givers_best (ref_up (r_var rfl))) (r_call1 r_takers_best (ref_up (r_var rfl)))) fun v_best =>
  (j_env (s' := [some (em v_script), some (em v_world_here), some (em v_plan_here), some (em v_rows), some (em v_best), none, none, none, none, none, none]) rfl (j_seq (j_if (r_or (r_op2 (r_var rfl) (r_call1 r_steps (ref_up (r_var rfl)))) (r_or (r_not (r_call3 r_is_within (ref_up (r_var rfl)) (ref_up (r_var rfl)) (ref_up (r_call1 r_limits (ref_up (r_var rfl)))))) (r_one (r_op2 (r_call2 r_caps_of (ref_up (r_var rfl)) (ref_up r_lst0)) (r_call1 r_limits (ref_up (r_var rfl))))))) (j_seq (j_retT (ref_up (r_bool _))))
  (j_skip (j_seq (j_set (r_call1 r_limits (ref_up (r_var rfl))) fun v_ahead =>
  (j_env (s' := [some (em v_script), some (em v_world_here), some (em v_plan_here), some (em v_rows), some (em v_best), some (em v_ahead), none, none, none, none, none]) rfl (j_seq (j_forX (ev := (fun st29 s' => ∃ j30 j31, s' = [some (em v_script), some (em v_world_here), some (em v_plan_here), some (em v_rows), some (em v_best), some (em st29), j30, j31, none, none, none])) (r_itRange (r_op2 (r_op1 (r_var rfl)) (r_int _))) ⟨_, _, rfl⟩ (fun x s' => s'.set 6 (some (em x))) (fun _ _ _ h0 => by obtain ⟨j30, j31, rfl⟩ := h0; rfl) (fun p35 st29 s0 h0 => by
  obtain ⟨j30, j31, rfl⟩ := h0
  exact j_env (s' := [some (em v_script), some (em v_world_here), some (em v_plan_here), some (em v_rows), some (em v_best), some (em st29), some (em p35), j31, none, none, none]) rfl (j_seq (j_set (r_call2 r_caps_of (ref_up (r_var rfl)) (ref_up (r_op2 (r_var rfl) (r_var rfl)))) fun v_caps =>
  (j_env (s' := [some (em v_script), some (em v_world_here), some (em v_plan_here), some (em v_rows), some (em v_best), some (em st29), some (em p35), some (em v_caps), none, none, none]) rfl (j_seq (j_if (r_or (r_op2 (r_var rfl) r_none) (r_one (r_op2 (r_var rfl) (r_call2 r_capped (ref_up (r_var rfl)) (ref_up (r_op2 (r_var rfl) (r_var rfl))))))) (j_seq (j_ret (k := Nx.ret) (ref_up (r_bool _)) (fun _ => rfl)))
  (j_skip (j_seq (j_if (r_op2 (r_lc (r_itRange (r_op1 (ref_get (r_var rfl)))) (fun p52 => [some (em v_script), some (em v_world_here), some (em v_plan_here), some (em v_rows), some (em v_best), some (em st29), some (em p35), some (em v_caps), some (em p52), none, none]) (fun _ => rfl) (fun p52 => (r_op2 (r_op2 (ref_get (r_var rfl)) (r_var rfl)) (r_op2 (r_var rfl) (r_var rfl)))) (fun p52 => (r_var rfl))) r_lst0) (j_seq (j_ret (k := Nx.ret) (ref_up (r_bool _)) (fun _ => rfl)))
  (j_skip (j_seq (j_if (r_op2 (r_lc (r_itSeq (r_var rfl)) (fun p64 => [some (em v_script), some (em v_world_here), some (em v_plan_here), some (em v_rows), some (em v_best), some (em st29), some (em p35), some (em v_caps), none, none, some (em p64)]) (fun _ => rfl) (fun p64 => (r_not (r_call3 r_is_within (ref_up (r_var rfl)) (ref_up (r_var rfl)) (ref_up (ref_get (r_var rfl)))))) (fun p64 => (r_var rfl))) r_lst0) (j_seq (j_ret (k := Nx.ret) (ref_up (r_bool _)) (fun _ => rfl)))
  (j_skip (j_seq (j_if (r_and (r_call3 r_is_within (ref_up (r_var rfl)) (ref_up (r_var rfl)) (ref_up (ref_get (r_var rfl)))) (r_one (r_not (r_call3 r_is_within (ref_up (r_var rfl)) (ref_up (r_var rfl)) (ref_up (r_var rfl)))))) (j_seq (j_ret (k := Nx.ret) (ref_up (r_bool _)) (fun _ => rfl)))
  (j_skip (j_seq (j_if (r_op2 (r_call2 r_refused (ref_up (r_var rfl)) (ref_up (ref_get (r_var rfl)))) (r_op2 (r_op2 (ref_up (r_var rfl)) (r_lst (r_cons (ref_up r_none) r_nil))) (r_var rfl))) (j_seq (j_ret (k := Nx.ret) (ref_up (r_bool _)) (fun _ => rfl)))
  (j_skip (j_seq (j_if (r_op2 (r_call3 r_shows (ref_up (r_var rfl)) (ref_up (r_opc (r_var rfl))) (ref_up (r_op2 (r_var rfl) (r_var rfl)))) (r_op2 (r_var rfl) (r_op1 (r_var rfl)))) (j_seq (j_ret (k := Nx.ret) (ref_up (r_bool _)) (fun _ => rfl)))
  (j_skip (j_seq (j_if (r_and (r_call3 r_shows (ref_up (r_var rfl)) (ref_up (r_opc (r_var rfl))) (ref_up (r_op2 (r_var rfl) (r_var rfl)))) (r_one (r_op2 (r_opc (r_var rfl)) (r_opc (r_var rfl))))) (j_seq (j_ret (k := Nx.ret) (ref_up (r_bool _)) (fun _ => rfl)))
  (j_skip (j_seq (j_set (ref_get (r_var rfl)) fun v_ahead =>
  (j_env (s' := [some (em v_script), some (em v_world_here), some (em v_plan_here), some (em v_rows), some (em v_best), some (em v_ahead), some (em p35), some (em v_caps), none, none, none]) rfl (j_skip (j_nxX ⟨_, _, rfl⟩)))))))))))))))))))))))))))))) (fun _ => rfl) (fun st29 s0 h0 => by
  obtain ⟨j30, j31, rfl⟩ := h0
  exact (j_seq (j_forX (ev := (fun st117 s' => ∃ j118 j119, s' = [some (em v_script), some (em v_world_here), some (em v_plan_here), some (em v_rows), some (em v_best), some (em st29), j30, j31, j118, j119, none])) (r_itRange (r_op1 (r_opc (r_var rfl)))) ⟨_, _, rfl⟩ (fun x s' => s'.set 8 (some (em x))) (fun _ _ _ h0 => by obtain ⟨j118, j119, rfl⟩ := h0; rfl) (fun p121 st117 s0 h0 => by
  obtain ⟨j118, j119, rfl⟩ := h0
  exact j_env (s' := [some (em v_script), some (em v_world_here), some (em v_plan_here), some (em v_rows), some (em v_best), some (em st29), j30, j31, some (em p121), j119, none]) rfl (j_seq (j_set (r_call3 r_lowered (ref_up (r_var rfl)) (ref_up (r_var rfl)) (ref_up (r_op2 (r_int _) (r_op2 (r_op2 (r_var rfl) (r_var rfl)) (r_int _))))) fun v_less =>
  (j_env (s' := [some (em v_script), some (em v_world_here), some (em v_plan_here), some (em v_rows), some (em v_best), some (em st29), j30, j31, some (em p121), some (em v_less), none]) rfl (j_seq (j_if (r_and (r_call3 r_is_within (ref_up (r_var rfl)) (ref_up (r_var rfl)) (ref_up (r_var rfl))) (r_one (r_not (r_call3 r_is_within (ref_up (r_var rfl)) (ref_up (r_var rfl)) (ref_up (r_var rfl)))))) (j_seq (j_ret (k := Nx.ret) (ref_up (r_bool _)) (fun _ => rfl)))
  (j_skip (j_seq (j_if (r_call2 r_holds (ref_up (r_var rfl)) (ref_up (r_op2 (r_var rfl) (r_lst (r_cons (r_tup2 (r_var rfl) (r_op2 (r_var rfl) (r_var rfl))) r_nil))))) (j_seq (j_ret (k := Nx.ret) (ref_up (r_bool _)) (fun _ => rfl)))
  (j_skip (j_skip (j_nxX ⟨_, _, rfl⟩)))))))))))) (fun _ => rfl) (fun st117 s0 h0 => by
  obtain ⟨j118, j119, rfl⟩ := h0
  exact (j_seq (j_retT (ref_up (r_or (r_not (r_call3 r_shows (ref_up (r_var rfl)) (ref_up (r_var rfl)) (ref_up (r_var rfl)))) (r_one (r_call2 r_rests (ref_up (r_var rfl)) (ref_up (r_var rfl)))))))))))))))))))))))))))))))))
end Lw

namespace Lw
open SF.Em (em)
open SF.Up (up)
open PySem SF Mt
theorem capL_take_le {W : Wd} (h : WOk W) : ∀ (n : Nat) (caps : List Int) (k : Nat), COk W caps → k < (stepsM W n caps).length → refM W (capL caps ((stepsM W n caps).take k)) = (stepsM W n caps)[k]? ∧ COk W (capL caps ((stepsM W n caps).take k)) ∧ COk W (capL caps ((stepsM W n caps).take (k + 1))) ∧ ∀ i, i < nw W → val (capL caps ((stepsM W n caps).take (k + 1))) i ≤ val (capL caps ((stepsM W n caps).take k)) i
  | 0, caps, k, _, hk => by unfold stepsM at hk; exact absurd hk (Nat.not_lt_zero _)
  | n + 1, caps, k, hc, hk => by
    unfold stepsM at hk ⊢
    cases hr : refM W caps with
    | none => rw [hr] at hk; exact absurd hk (Nat.not_lt_zero _)
    | some r =>
      rw [hr] at hk
      dsimp only at hk ⊢
      obtain ⟨i, hi, he, h1, h2, h3⟩ := refM_some h hc hr
      have hc' := (refM_low h hc hr).1
      cases k with
      | zero =>
        refine ⟨hr, hc, ?_, fun j hj => ?_⟩
        · rw [List.take_succ_cons]; exact hc'
        · rw [List.take_succ_cons]
          show val (low caps r) j ≤ val caps j
          have hv := val_low hc hi (c := r.2) j
          have er : r = ((i : Int), r.2) := by rw [he]
          rw [← er] at hv
          rw [hv]
          split
          · rename_i e; subst e; omega
          · omega
      | succ k =>
        have := capL_take_le h n (low caps r) k hc' (by simp only [List.length_cons] at hk; omega)
        rw [List.take_succ_cons, List.take_succ_cons, List.getElem?_cons_succ]
        exact this
theorem law_nat (s : Scr) (hs : s.ns.length ≤ 63) : n_law s = .ok true := by
  obtain ⟨W, w1, w2⟩ := world_ok hs 0 (most := 9) (by decide) (by decide)
  have h := w2.toWOk
  have n16 := nw_le h (.inl rfl : Sid 0)
  obtain ⟨x0, p1, p2⟩ := l_plan_ok h hs 70
  have bp := best_pok h
  have tp := tbest_pok h
  have bs := best_st h
  have ts := tbest_st h
  have ll := (lims_ok h).l
  have e9 := lims9 h
  have hlim := lims_sum h
  have hlen := (stepsM_end h 10000 (lims W) (lims_ok h) (by omega)).2.2
  have hl0 : (stepsM W 10000 (lims W)).length ≤ 144 := by omega
  have hold_at : ∀ k, hold W (lims W) ((stepsM W 10000 (lims W)).take k) = some (capL (lims W) ((stepsM W 10000 (lims W)).take k)) := fun k => hold_steps h 10000 (lims W) k (lims_ok h) e9
  have inv_at := fun k => hold_inv h _ _ _ (lims_ok h) (lims_inv h).1 (lims_inv h).2 (hold_at k)
  have cok_at : ∀ k, COk W (capL (lims W) ((stepsM W 10000 (lims W)).take k)) := fun k => hold_cok h _ _ _ (lims_ok h) (hold_at k)
  have fin := capL_take_le h 10000 (lims W)
  have hend : capL (lims W) ((stepsM W 10000 (lims W)).take (stepsM W 10000 (lims W)).length) = endC W := by rw [List.take_length, endC]
  generalize hR : stepsM W 10000 (lims W) = R0 at *
  simp only [n_law, O2.f, OC.f, O1.f, SeqN.f, Ix.f, Sl.f, Un2.f, Un3.f, ok_bind, ex_bind, bad_bind, bind_asc, bind_okr, upR_refl, up_refl, upR_ok, upR_ex, up_D, up_some, up_none, up_nilL, up_nilT, oR_some, optB_some, nxE_nx, nxE_ret, em_D, id_eq, if_true_eq, if_false_eq, decide_eq_true_eq, Bool.not_true, Bool.not_false, ite_true_b, ite_false_b, Bool.true_and, Bool.and_true]
  rw [w1, ok_bind, p1, ok_bind, paper_ok h, hR, ok_bind, givers_best_ok h, ok_bind, takers_best_ok h, ok_bind, steps_ok h, hR, ok_bind, if_neg (by simp), limits_ok, ok_bind, is_within_ok h p2 ll, ok_bind]
  have hx0 : ∀ i, i < nw W → val x0 i ≤ val (lims W) i := fun i hi => by
    have := (p2.f.r i hi).2
    unfold lims
    rw [val_tab hi]
    exact this
  rw [dP_t hx0, if_neg (by decide), caps_of_ok h, ok_bind, ok_bind]
  have h00 : hold W (lims W) [] = some (lims W) := rfl
  rw [h00, ok_bind, if_neg (by simp), ok_bind]
  -- the loop over beginnings
  have r1 : rangeN 0 ((R0.length : Int) + 1) = .ok ((List.range (R0.length + 1)).map fun k : Nat => (k : Int)) := by
    have := range_ok (n := R0.length + 1) (by omega)
    rw [← this]
    congr 1
  rw [r1, ok_bind, forX_map]
  have shB : ∀ k, k ≤ R0.length → n_shows W ⟨best W⟩ (R0.take k) = .ok (decide ((k : Int) = (R0.length : Int))) := fun k hk => by
    rw [shows_ok h bp, hold_at k]
    dsimp only
    rw [(rests_iff h bp).mpr bs, Bool.true_and]
    refine congrArg R.ok ?_
    rw [Bool.eq_iff_iff, decide_eq_true_eq, decide_eq_true_eq]
    by_cases c : k = R0.length
    · rw [c, hend]
      exact ⟨fun _ => rfl, fun _ => rfl⟩
    · constructor
      · intro e
        exfalso
        have hk' : k < R0.length := by omega
        have q := fin k (cok_at 0) hk'
        rw [List.getElem?_eq_getElem hk'] at q
        obtain ⟨i, hi, he, h1, h2, h3⟩ := refM_some h (cok_at k) q.1
        have ev : val (tab (nw W) (Ch W 0 (val (capL (lims W) (R0.take k))))) i = val (best W) i := congrArg (fun l => val l i) e
        rw [val_tab hi] at ev
        have := paper_sound (mk_ok h) (fun i hi => (cok_at k).r i hi) bs (fun i hi => (inv_at k).2 _ bs i hi) hi h1
        have : val (best W) i ≤ Ch W 1 (Ch W 0 (val (capL (lims W) (R0.take k)))) i := this
        omega
      · intro e; omega
  have shT : ∀ k, k ≤ R0.length → ∃ b, n_shows W ⟨tbest W⟩ (R0.take k) = .ok b ∧ (b = true → best W = tbest W) := fun k hk => by
    rw [shows_ok h tp, hold_at k]
    refine ⟨_, rfl, fun hb => ?_⟩
    dsimp only at hb
    rw [Bool.and_eq_true, decide_eq_true_eq] at hb
    by_cases c : k = R0.length
    · have := hb.2
      rw [c, hend] at this
      exact this
    · exfalso
      have hk' : k < R0.length := by omega
      have q := fin k (cok_at 0) hk'
      rw [List.getElem?_eq_getElem hk'] at q
      obtain ⟨i, hi, he, h1, h2, h3⟩ := refM_some h (cok_at k) q.1
      have ev : val (tab (nw W) (Ch W 0 (val (capL (lims W) (R0.take k))))) i = val (tbest W) i := congrArg (fun l => val l i) hb.2
      rw [val_tab hi] at ev
      have := paper_sound (mk_ok h) (fun i hi => (cok_at k).r i hi) ts (fun i hi => (inv_at k).2 _ ts i hi) hi h1
      have : val (tbest W) i ≤ Ch W 1 (Ch W 0 (val (capL (lims W) (R0.take k)))) i := this
      omega
  refine forX_bind (fun d st => st = ⟨capL (lims W) (R0.take (d.length - 1))⟩) rfl (fun d k r st hd hI => by
    subst hI
    have hk : k = d.length ∧ k ≤ R0.length := by
      have a : (List.range (R0.length + 1))[d.length]? = some k := by rw [hd, List.getElem?_append_right (Nat.le_refl _), Nat.sub_self]; rfl
      have hlt : d.length < R0.length + 1 := by
        have := congrArg List.length hd
        simp at this
        omega
      rw [List.getElem?_range hlt] at a
      have := Option.some.inj a
      omega
    obtain ⟨hk1, hk2⟩ := hk
    have cl := (cok_at k).l
    have cl' := (cok_at (d.length - 1)).l
    have hmono : ∀ i, i < nw W → val (capL (lims W) (R0.take k)) i ≤ val (capL (lims W) (R0.take (d.length - 1))) i := fun i hi => by
      rw [← hk1]
      cases k with
      | zero => exact Int.le_refl _
      | succ k =>
        have q := fin k (cok_at 0) (by omega)
        exact q.2.2.2 i hi
    have hcap : n_capped W (R0.take k) = .ok ⟨capL (lims W) (R0.take k)⟩ := capped_ok (hold_rows h _ _ _ (hold_at k)) (by omega)
    refine ⟨⟨capL (lims W) (R0.take k)⟩, ?_, ?_⟩
    · rw [toL_nat, caps_of_ok h, hold_at k, ok_bind]
      show ((if false = true then _ else _) >>= _) = _
      rw [if_neg Bool.false_ne_true, hcap, ok_bind, ok_bind, if_neg (by simp)]
      simp only [Option.map_some, oR_some, ok_bind]
      rw [cl, range_ok (by omega), ok_bind, lcN_ok (p := fun _ => false) (g := fun i => i) (fun i hi => by
        obtain ⟨j, hj, rfl⟩ := List.mem_map.mp hi
        have hj := List.mem_range.mp hj
        have := hmono j hj
        rw [at_val (l := capL (lims W) (R0.take k)) (by omega), ok_bind, at_val (l := capL (lims W) (R0.take (d.length - 1))) (by omega), ok_bind]
        rw [decide_eq_false (by omega)]) (fun _ _ _ => rfl), ok_bind, List.filter_eq_nil_iff.mpr (fun _ _ => Bool.false_ne_true), if_neg (by decide)]
      rw [lcN_ok (p := fun _ => false) (g := fun i : Plan => i) (fun q hq => by
        have hq : ∃ y, q = ⟨y⟩ ∧ POk W y ∧ St (mk W) (val y) := by
          simp only [List.mem_cons, List.not_mem_nil, or_false] at hq
          rcases hq with rfl | rfl
          · exact ⟨_, rfl, bp, bs⟩
          · exact ⟨_, rfl, tp, ts⟩
        obtain ⟨y, rfl, py, sy⟩ := hq
        rw [is_within_ok h py cl, ok_bind, dP_t (fun i hi => (inv_at k).2 _ sy i hi)]
        rfl) (fun _ _ _ => rfl), ok_bind, List.filter_eq_nil_iff.mpr (fun _ _ => Bool.false_ne_true), if_neg (by decide)]
      rw [is_within_ok h p2 cl, ok_bind, is_within_ok h p2 cl']
      have e1 : (if dP (∀ i, i < nw W → val x0 i ≤ val (capL (lims W) (R0.take k)) i) = true then (R.ok (dP (∀ i, i < nw W → val x0 i ≤ val (capL (lims W) (R0.take (d.length - 1))) i)) >>= fun q19 => R.ok (!q19)) else R.ok false) = .ok false := by
        by_cases c : ∀ i, i < nw W → val x0 i ≤ val (capL (lims W) (R0.take k)) i
        · rw [dP_t c, if_pos rfl, dP_t (fun i hi => Int.le_trans (c i hi) (hmono i hi))]; rfl
        · rw [dP_f c, if_neg Bool.false_ne_true]
      rw [e1, ok_bind, if_neg Bool.false_ne_true, refused_ok h (cok_at k), ok_bind]
      have e2 : addLN (up R0 : List (Option (Int × Int))) [none] = .ok (R0.map some ++ [none]) := addL_ok (by show (List.map up R0).length + _ ≤ _; simp; omega)
      rw [e2, ok_bind]
      have e3 : (R0.map some ++ [none])[k]? = some (refM W (capL (lims W) (R0.take k))) := by
        by_cases c : k < R0.length
        · have q := fin k (cok_at 0) (by omega)
          rw [q.1, List.getElem?_append_left (by simpa using c), List.getElem?_map, List.getElem?_eq_getElem c]
          rfl
        · have : k = R0.length := by omega
          rw [this, hend, (endC_ok h).1, List.getElem?_append_right (by simp), List.length_map, Nat.sub_self]
          rfl
      rw [atN_nat e3, ok_bind, if_neg (by simp), shB k hk2, ok_bind, if_neg (by simp)]
      obtain ⟨b, g1, g2⟩ := shT k hk2
      rw [g1, ok_bind]
      cases b with
      | false => rw [if_neg Bool.false_ne_true, ok_bind, if_neg Bool.false_ne_true]
      | true =>
        have := g2 rfl
        rw [if_pos rfl, this, ok_bind, if_neg (by simp)]
    · rw [List.length_append, List.length_singleton, hk1]
      rfl) fun st t2 => ?_
  rw [nxE_nx, t2, List.length_range, Nat.add_sub_cancel, hend]
  have ce := endC_ok h
  have cl := ce.2.l
  rw [show ((W.c.l.length : Nat) : Int) = (nw W : Int) from rfl, range_ok (by omega), ok_bind, forX_map, forX_unit (fun i hi => by
    have hi := List.mem_range.mp hi
    simp only []
    have hv0 := ce.2.r i hi
    rw [at_val (l := endC W) (by omega), ok_bind, lowered_ok (by omega) (by omega), ok_bind]
    have hm : 0 ≤ (if val (endC W) i - 1 > 0 then val (endC W) i - 1 else 0) ∧ (if val (endC W) i - 1 > 0 then val (endC W) i - 1 else 0) ≤ val (endC W) i := by
      by_cases c : val (endC W) i - 1 > 0
      · rw [if_pos c]; omega
      · rw [if_neg c]; omega
    generalize (if val (endC W) i - 1 > 0 then val (endC W) i - 1 else 0) = v at hm ⊢
    have hlo := low_ok ce.2 hi hm.1
    rw [is_within_ok h p2 hlo.1.l, ok_bind, is_within_ok h p2 cl]
    have e1 : (if dP (∀ j, j < nw W → val x0 j ≤ val (low (endC W) ((i : Int), v)) j) = true then (R.ok (dP (∀ j, j < nw W → val x0 j ≤ val (endC W) j)) >>= fun q19 => R.ok (!q19)) else R.ok false) = .ok false := by
      by_cases c : ∀ j, j < nw W → val x0 j ≤ val (low (endC W) ((i : Int), v)) j
      · rw [dP_t c, if_pos rfl, dP_t (fun j hj => by
          have := c j hj
          rw [val_low ce.2 hi] at this
          by_cases e : j = i
          · subst e; rw [if_pos rfl] at this; omega
          · rw [if_neg e] at this; exact this)]; rfl
      · rw [dP_f c, if_neg Bool.false_ne_true]
    rw [e1, ok_bind, if_neg Bool.false_ne_true, ok_bind, addL_ok (by simp; omega), ok_bind, holds_ok h, hold_snoc]
    have e4 : hold W (lims W) R0 = some (endC W) := by
      have := hold_at R0.length
      rw [hend, List.take_length] at this
      exact this
    rw [e4]
    have e5 : ¬ RowOk W (endC W) ((i : Int), val (endC W) i) := by
      rintro ⟨j, hj, e, _, _, _, hlt⟩
      have : j = i := by have e : (i : Int) = j := e; omega
      subst this
      have := Ch_le h (.inl rfl : Sid 0) ce.2.r hj
      dsimp only at hlt
      omega
    show (R.ok (Option.isSome (if dP (RowOk W (endC W) ((i : Int), val (endC W) i)) = true then some (low (endC W) ((i : Int), val (endC W) i)) else none)) >>= _) = _
    rw [dP_f e5, if_neg Bool.false_ne_true]
    rfl), ok_bind, nxE_nx]
  have e4 : hold W (lims W) R0 = some (endC W) := by
    have := hold_at R0.length
    rw [hend, List.take_length] at this
    exact this
  rw [shows_ok h p2, e4, ok_bind]
  dsimp only
  rw [rests_ok h p2]
  cases hb : (lvs W x0).isEmpty with
  | false => rfl
  | true =>
    split <;> rfl
end Lw

namespace Lw
open SF.Em (em)
open SF.Up (up)
open PySem PySem.Spec PyProof.Rows L2 SF
theorem law_true (ns : List Int) (h : ns.length ≤ 63) : f_law [scrD ns] = .ok (.bool true) := by
  have e : RefW em (f_law [scrD ns]) (n_law ⟨ns⟩) := r_law ⟨ns⟩
  rw [law_nat ⟨ns⟩ h] at e
  exact e
def topS (i : Nat) : Stmt := PySem.Challenge.pw_stillflow_k62_whole_within.main.body.getD i (.Pass ⟨0, 0, 0, 0⟩)
abbrev s__law_cell : Stmt := topS 42
abbrev s__law_drawn : Stmt := topS 43
abbrev s__law_orders : Stmt := topS 44
abbrev s__law_world : Stmt := topS 45
abbrev s__law_used : Stmt := topS 46
abbrev s__law_fits : Stmt := topS 47
abbrev s__law_plan : Stmt := topS 49
abbrev s_are_places : Stmt := topS 9
abbrev s_is_number : Stmt := topS 7
abbrev s_is_place : Stmt := topS 8
abbrev s_is_way : Stmt := topS 10
abbrev s_is_world : Stmt := topS 11
abbrev s_need_world : Stmt := topS 12
abbrev s_limits : Stmt := topS 27
abbrev s_ways_liked : Stmt := topS 16
abbrev s_chosen : Stmt := topS 20
abbrev s_both_ends : Stmt := topS 26
abbrev s_refused : Stmt := topS 28
abbrev s_lowered : Stmt := topS 29
abbrev s_steps : Stmt := topS 30
abbrev s_paper : Stmt := topS 35
abbrev s_capped : Stmt := topS 31
abbrev s_givers_best : Stmt := topS 32
abbrev s_turned : Stmt := topS 17
abbrev s_used : Stmt := topS 14
abbrev s_is_plan : Stmt := topS 13
abbrev s_need_plan : Stmt := topS 15
abbrev s_turned_plan : Stmt := topS 18
abbrev s_takers_best : Stmt := topS 33
abbrev s_is_within : Stmt := topS 40
abbrev s_is_row : Stmt := topS 36
abbrev s_holds : Stmt := topS 37
abbrev s_caps_of : Stmt := topS 39
abbrev s_wants : Stmt := topS 21
abbrev s_would_leave : Stmt := topS 22
abbrev s_leaving : Stmt := topS 23
abbrev s_rests : Stmt := topS 24
abbrev s_shows : Stmt := topS 38
abbrev s_law : Stmt := topS 50
/-! ### the texts mean so -/
theorem sc__law_cell : FnScope ["_law_script", "_law_k"] ["_law_script", "_law_k"] (defScope s__law_cell) := ⟨rfl, rfl, rfl, by decide +kernel, rfl, by decide +kernel, by decide +kernel⟩
theorem m__law_cell : cellM ⟨["_law_script", "_law_k"], (defScope s__law_cell).names, fun _ => true⟩ (defBody s__law_cell) = true := by decide +kernel
theorem sc__law_drawn : FnScope ["_law_script", "_law_k", "_law_many", "_law_cell_here"] ["_law_script", "_law_k", "_law_many"] (defScope s__law_drawn) := ⟨rfl, rfl, rfl, by decide +kernel, rfl, by decide +kernel, by decide +kernel⟩
theorem m__law_drawn : (mS b__law_drawn ⟨["_law_script", "_law_k", "_law_many", "_law_cell_here"], (defScope s__law_drawn).names, fun _ => true⟩ [] (.l (defBody s__law_drawn))).isSome = true := by decide +kernel
theorem sc__law_orders : FnScope ["_law_script", "_law_at", "_law_rows", "_law_found", "_law_k", "_law_row", "_law_order", "_law_j", "_law_one"] ["_law_script", "_law_at", "_law_rows"] (defScope s__law_orders) := ⟨rfl, rfl, rfl, by decide +kernel, rfl, by decide +kernel, by decide +kernel⟩
theorem m__law_orders : (mS b__law_orders ⟨["_law_script", "_law_at", "_law_rows", "_law_found", "_law_k", "_law_row", "_law_order", "_law_j", "_law_one"], (defScope s__law_orders).names, fun _ => true⟩ [] (.l (defBody s__law_orders))).isSome = true := by decide +kernel
theorem sc__law_world : FnScope ["_law_script", "_law_at", "_law_most", "_law_each", "_law_takers", "_law_many", "_law_size", "_law_ways", "_law_k", "_law_mine", "_law_yours", "_law_givers", "_law_giver", "_law_way", "_law_taker", "_law_row"] ["_law_script", "_law_at", "_law_most"] (defScope s__law_world) := ⟨rfl, rfl, rfl, by decide +kernel, rfl, by decide +kernel, by decide +kernel⟩
theorem m__law_world : (mS b__law_world ⟨["_law_script", "_law_at", "_law_most", "_law_each", "_law_takers", "_law_many", "_law_size", "_law_ways", "_law_k", "_law_mine", "_law_yours", "_law_givers", "_law_giver", "_law_way", "_law_taker", "_law_row"], (defScope s__law_world).names, fun _ => true⟩ [] (.l (defBody s__law_world))).isSome = true := by decide +kernel
theorem sc__law_used : FnScope ["_law_world_here", "_law_plan_here", "_law_side", "_law_place", "_law_many", "_law_way"] ["_law_world_here", "_law_plan_here", "_law_side", "_law_place"] (defScope s__law_used) := ⟨rfl, rfl, rfl, by decide +kernel, rfl, by decide +kernel, by decide +kernel⟩
theorem m__law_used : (mS b__law_used ⟨["_law_world_here", "_law_plan_here", "_law_side", "_law_place", "_law_many", "_law_way"], (defScope s__law_used).names, fun _ => true⟩ [] (.l (defBody s__law_used))).isSome = true := by decide +kernel
theorem sc__law_fits : FnScope ["_law_world_here", "_law_plan_here", "_law_side", "_law_place", "_law_row"] ["_law_world_here", "_law_plan_here"] (defScope s__law_fits) := ⟨rfl, rfl, rfl, by decide +kernel, rfl, by decide +kernel, by decide +kernel⟩
theorem m__law_fits : (mS b__law_fits ⟨["_law_world_here", "_law_plan_here", "_law_side", "_law_place", "_law_row"], (defScope s__law_fits).names, fun _ => true⟩ [] (.l (defBody s__law_fits))).isSome = true := by decide +kernel
theorem sc__law_plan : FnScope ["_law_script", "_law_at", "_law_world_here", "_law_found", "_law_k", "_law_way", "_law_more", "_law_fit"] ["_law_script", "_law_at", "_law_world_here"] (defScope s__law_plan) := ⟨rfl, rfl, rfl, by decide +kernel, rfl, by decide +kernel, by decide +kernel⟩
theorem m__law_plan : (mS b__law_plan ⟨["_law_script", "_law_at", "_law_world_here", "_law_found", "_law_k", "_law_way", "_law_more", "_law_fit"], (defScope s__law_plan).names, fun _ => true⟩ [] (.l (defBody s__law_plan))).isSome = true := by decide +kernel
theorem sc_are_places : FnScope ["thing"] ["thing"] (defScope s_are_places) := ⟨rfl, rfl, rfl, by decide +kernel, rfl, by decide +kernel, by decide +kernel⟩
theorem m_are_places : (mS b_are_places ⟨["thing"], (defScope s_are_places).names, fun _ => true⟩ [] (.l (defBody s_are_places))).isSome = true := by decide +kernel
theorem sc_is_number : FnScope ["thing", "low", "high"] ["thing", "low", "high"] (defScope s_is_number) := ⟨rfl, rfl, rfl, by decide +kernel, rfl, by decide +kernel, by decide +kernel⟩
theorem m_is_number : (mS b_is_number ⟨["thing", "low", "high"], (defScope s_is_number).names, fun _ => true⟩ [] (.l (defBody s_is_number))).isSome = true := by decide +kernel
theorem sc_is_place : FnScope ["thing", "many", "likes", "one"] ["thing", "many"] (defScope s_is_place) := ⟨rfl, rfl, rfl, by decide +kernel, rfl, by decide +kernel, by decide +kernel⟩
theorem m_is_place : (mS b_is_place ⟨["thing", "many", "likes", "one"], (defScope s_is_place).names, fun _ => true⟩ [] (.l (defBody s_is_place))).isSome = true := by decide +kernel
theorem sc_is_way : FnScope ["thing", "givers", "takers"] ["thing", "givers", "takers"] (defScope s_is_way) := ⟨rfl, rfl, rfl, by decide +kernel, rfl, by decide +kernel, by decide +kernel⟩
theorem m_is_way : (mS b_is_way ⟨["thing", "givers", "takers"], (defScope s_is_way).names, fun _ => true⟩ [] (.l (defBody s_is_way))).isSome = true := by decide +kernel
theorem sc_is_world : FnScope ["thing", "givers", "takers", "ways", "pairs", "mine", "yours", "giver", "place", "taker", "one", "way"] ["thing"] (defScope s_is_world) := ⟨rfl, rfl, rfl, by decide +kernel, rfl, by decide +kernel, by decide +kernel⟩
theorem m_is_world : (mS b_is_world ⟨["thing", "givers", "takers", "ways", "pairs", "mine", "yours", "giver", "place", "taker", "one", "way"], (defScope s_is_world).names, fun _ => true⟩ [] (.l (defBody s_is_world))).isSome = true := by decide +kernel
theorem sc_need_world : FnScope ["world"] ["world"] (defScope s_need_world) := ⟨rfl, rfl, rfl, by decide +kernel, rfl, by decide +kernel, by decide +kernel⟩
theorem m_need_world : (mS b_need_world ⟨["world"], (defScope s_need_world).names, fun _ => true⟩ [] (.l (defBody s_need_world))).isSome = true := by decide +kernel
theorem sc_limits : FnScope ["world", "way"] ["world"] (defScope s_limits) := ⟨rfl, rfl, rfl, by decide +kernel, rfl, by decide +kernel, by decide +kernel⟩
theorem m_limits : (mS b_limits ⟨["world", "way"], (defScope s_limits).names, fun _ => true⟩ [] (.l (defBody s_limits))).isSome = true := by decide +kernel
theorem sc_ways_liked : FnScope ["world", "side", "place", "pairs", "likes", "way", "other"] ["world", "side", "place"] (defScope s_ways_liked) := ⟨rfl, rfl, rfl, by decide +kernel, rfl, by decide +kernel, by decide +kernel⟩
theorem m_ways_liked : (mS b_ways_liked ⟨["world", "side", "place", "pairs", "likes", "way", "other"], (defScope s_ways_liked).names, fun _ => true⟩ [] (.l (defBody s_ways_liked))).isSome = true := by decide +kernel
theorem sc_chosen : FnScope ["world", "side", "place", "offers", "left", "found", "way"] ["world", "side", "place", "offers"] (defScope s_chosen) := ⟨rfl, rfl, rfl, by decide +kernel, rfl, by decide +kernel, by decide +kernel⟩
theorem m_chosen : (mS b_chosen ⟨["world", "side", "place", "offers", "left", "found", "way"], (defScope s_chosen).names, fun _ => true⟩ [] (.l (defBody s_chosen))).isSome = true := by decide +kernel
theorem sc_both_ends : FnScope ["world", "side", "offers", "found", "place", "one", "other"] ["world", "side", "offers"] (defScope s_both_ends) := ⟨rfl, rfl, rfl, by decide +kernel, rfl, by decide +kernel, by decide +kernel⟩
theorem m_both_ends : (mS b_both_ends ⟨["world", "side", "offers", "found", "place", "one", "other"], (defScope s_both_ends).names, fun _ => true⟩ [] (.l (defBody s_both_ends))).isSome = true := by decide +kernel
theorem sc_refused : FnScope ["world", "caps", "offers", "some", "way"] ["world", "caps"] (defScope s_refused) := ⟨rfl, rfl, rfl, by decide +kernel, rfl, by decide +kernel, by decide +kernel⟩
theorem m_refused : (mS b_refused ⟨["world", "caps", "offers", "some", "way"], (defScope s_refused).names, fun _ => true⟩ [] (.l (defBody s_refused))).isSome = true := by decide +kernel
theorem sc_lowered : FnScope ["caps", "way", "cap"] ["caps", "way", "cap"] (defScope s_lowered) := ⟨rfl, rfl, rfl, by decide +kernel, rfl, by decide +kernel, by decide +kernel⟩
theorem m_lowered : (mS b_lowered ⟨["caps", "way", "cap"], (defScope s_lowered).names, fun _ => true⟩ [] (.l (defBody s_lowered))).isSome = true := by decide +kernel
theorem sc_steps : FnScope ["world", "caps", "found", "told"] ["world"] (defScope s_steps) := ⟨rfl, rfl, rfl, by decide +kernel, rfl, by decide +kernel, by decide +kernel⟩
theorem m_steps : (mS b_steps ⟨["world", "caps", "found", "told"], (defScope s_steps).names, fun _ => true⟩ [] (.l (defBody s_steps))).isSome = true := by decide +kernel
theorem sc_paper : FnScope ["world"] ["world"] (defScope s_paper) := ⟨rfl, rfl, rfl, by decide +kernel, rfl, by decide +kernel, by decide +kernel⟩
theorem m_paper : (mS b_paper ⟨["world"], (defScope s_paper).names, fun _ => true⟩ [] (.l (defBody s_paper))).isSome = true := by decide +kernel
theorem sc_capped : FnScope ["world", "rows", "caps", "way", "cap"] ["world", "rows"] (defScope s_capped) := ⟨rfl, rfl, rfl, by decide +kernel, rfl, by decide +kernel, by decide +kernel⟩
theorem m_capped : (mS b_capped ⟨["world", "rows", "caps", "way", "cap"], (defScope s_capped).names, fun _ => true⟩ [] (.l (defBody s_capped))).isSome = true := by decide +kernel
theorem sc_givers_best : FnScope ["world"] ["world"] (defScope s_givers_best) := ⟨rfl, rfl, rfl, by decide +kernel, rfl, by decide +kernel, by decide +kernel⟩
theorem m_givers_best : (mS b_givers_best ⟨["world"], (defScope s_givers_best).names, fun _ => true⟩ [] (.l (defBody s_givers_best))).isSome = true := by decide +kernel
theorem sc_turned : FnScope ["world", "giver", "taker", "limit"] ["world"] (defScope s_turned) := ⟨rfl, rfl, rfl, by decide +kernel, rfl, by decide +kernel, by decide +kernel⟩
theorem m_turned : (mS b_turned ⟨["world", "giver", "taker", "limit"], (defScope s_turned).names, fun _ => true⟩ [] (.l (defBody s_turned))).isSome = true := by decide +kernel
theorem sc_used : FnScope ["world", "plan", "side", "place", "many", "way"] ["world", "plan", "side", "place"] (defScope s_used) := ⟨rfl, rfl, rfl, by decide +kernel, rfl, by decide +kernel, by decide +kernel⟩
theorem m_used : (mS b_used ⟨["world", "plan", "side", "place", "many", "way"], (defScope s_used).names, fun _ => true⟩ [] (.l (defBody s_used))).isSome = true := by decide +kernel
theorem sc_is_plan : FnScope ["world", "thing", "side", "many", "way", "at", "place"] ["world", "thing"] (defScope s_is_plan) := ⟨rfl, rfl, rfl, by decide +kernel, rfl, by decide +kernel, by decide +kernel⟩
theorem m_is_plan : (mS b_is_plan ⟨["world", "thing", "side", "many", "way", "at", "place"], (defScope s_is_plan).names, fun _ => true⟩ [] (.l (defBody s_is_plan))).isSome = true := by decide +kernel
theorem sc_need_plan : FnScope ["world", "plan"] ["world", "plan"] (defScope s_need_plan) := ⟨rfl, rfl, rfl, by decide +kernel, rfl, by decide +kernel, by decide +kernel⟩
theorem m_need_plan : (mS b_need_plan ⟨["world", "plan"], (defScope s_need_plan).names, fun _ => true⟩ [] (.l (defBody s_need_plan))).isSome = true := by decide +kernel
theorem sc_turned_plan : FnScope ["world", "plan", "rows", "way", "many", "row"] ["world", "plan"] (defScope s_turned_plan) := ⟨rfl, rfl, rfl, by decide +kernel, rfl, by decide +kernel, by decide +kernel⟩
theorem m_turned_plan : (mS b_turned_plan ⟨["world", "plan", "rows", "way", "many", "row"], (defScope s_turned_plan).names, fun _ => true⟩ [] (.l (defBody s_turned_plan))).isSome = true := by decide +kernel
theorem sc_takers_best : FnScope ["world", "other"] ["world"] (defScope s_takers_best) := ⟨rfl, rfl, rfl, by decide +kernel, rfl, by decide +kernel, by decide +kernel⟩
theorem m_takers_best : (mS b_takers_best ⟨["world", "other"], (defScope s_takers_best).names, fun _ => true⟩ [] (.l (defBody s_takers_best))).isSome = true := by decide +kernel
theorem sc_is_within : FnScope ["world", "plan", "caps", "many", "cap"] ["world", "plan", "caps"] (defScope s_is_within) := ⟨rfl, rfl, rfl, by decide +kernel, rfl, by decide +kernel, by decide +kernel⟩
theorem m_is_within : (mS b_is_within ⟨["world", "plan", "caps", "many", "cap"], (defScope s_is_within).names, fun _ => true⟩ [] (.l (defBody s_is_within))).isSome = true := by decide +kernel
theorem sc_is_row : FnScope ["world", "thing"] ["world", "thing"] (defScope s_is_row) := ⟨rfl, rfl, rfl, by decide +kernel, rfl, by decide +kernel, by decide +kernel⟩
theorem m_is_row : (mS b_is_row ⟨["world", "thing"], (defScope s_is_row).names, fun _ => true⟩ [] (.l (defBody s_is_row))).isSome = true := by decide +kernel
theorem sc_holds : FnScope ["world", "rows", "caps", "row", "offers", "some"] ["world", "rows"] (defScope s_holds) := ⟨rfl, rfl, rfl, by decide +kernel, rfl, by decide +kernel, by decide +kernel⟩
theorem m_holds : (mS b_holds ⟨["world", "rows", "caps", "row", "offers", "some"], (defScope s_holds).names, fun _ => true⟩ [] (.l (defBody s_holds))).isSome = true := by decide +kernel
theorem sc_caps_of : FnScope ["world", "rows"] ["world", "rows"] (defScope s_caps_of) := ⟨rfl, rfl, rfl, by decide +kernel, rfl, by decide +kernel, by decide +kernel⟩
theorem m_caps_of : (mS b_caps_of ⟨["world", "rows"], (defScope s_caps_of).names, fun _ => true⟩ [] (.l (defBody s_caps_of))).isSome = true := by decide +kernel
theorem sc_wants : FnScope ["world", "plan", "side", "place", "way", "row", "other"] ["world", "plan", "side", "place", "way"] (defScope s_wants) := ⟨rfl, rfl, rfl, by decide +kernel, rfl, by decide +kernel, by decide +kernel⟩
theorem m_wants : (mS b_wants ⟨["world", "plan", "side", "place", "way", "row", "other"], (defScope s_wants).names, fun _ => true⟩ [] (.l (defBody s_wants))).isSome = true := by decide +kernel
theorem sc_would_leave : FnScope ["world", "plan", "way", "giver", "taker", "limit"] ["world", "plan", "way"] (defScope s_would_leave) := ⟨rfl, rfl, rfl, by decide +kernel, rfl, by decide +kernel, by decide +kernel⟩
theorem m_would_leave : (mS b_would_leave ⟨["world", "plan", "way", "giver", "taker", "limit"], (defScope s_would_leave).names, fun _ => true⟩ [] (.l (defBody s_would_leave))).isSome = true := by decide +kernel
theorem sc_leaving : FnScope ["world", "plan", "way"] ["world", "plan"] (defScope s_leaving) := ⟨rfl, rfl, rfl, by decide +kernel, rfl, by decide +kernel, by decide +kernel⟩
theorem m_leaving : (mS b_leaving ⟨["world", "plan", "way"], (defScope s_leaving).names, fun _ => true⟩ [] (.l (defBody s_leaving))).isSome = true := by decide +kernel
theorem sc_rests : FnScope ["world", "plan"] ["world", "plan"] (defScope s_rests) := ⟨rfl, rfl, rfl, by decide +kernel, rfl, by decide +kernel, by decide +kernel⟩
theorem m_rests : (mS b_rests ⟨["world", "plan"], (defScope s_rests).names, fun _ => true⟩ [] (.l (defBody s_rests))).isSome = true := by decide +kernel
theorem sc_shows : FnScope ["world", "plan", "rows"] ["world", "plan", "rows"] (defScope s_shows) := ⟨rfl, rfl, rfl, by decide +kernel, rfl, by decide +kernel, by decide +kernel⟩
theorem m_shows : (mS b_shows ⟨["world", "plan", "rows"], (defScope s_shows).names, fun _ => true⟩ [] (.l (defBody s_shows))).isSome = true := by decide +kernel
theorem sc_law : FnScope ["_law_script", "_law_world_here", "_law_plan_here", "_law_rows", "_law_best", "_law_ahead", "_law_at", "_law_caps", "_law_way", "_law_less", "_law_one"] ["_law_script"] (defScope s_law) := ⟨rfl, rfl, rfl, by decide +kernel, rfl, by decide +kernel, by decide +kernel⟩
theorem m_law : (mS b_law ⟨["_law_script", "_law_world_here", "_law_plan_here", "_law_rows", "_law_best", "_law_ahead", "_law_at", "_law_caps", "_law_way", "_law_less", "_law_one"], (defScope s_law).names, fun _ => true⟩ [] (.l (defBody s_law))).isSome = true := by decide +kernel
section
variable [KS]
theorem ok__law_drawn {G : Gx} {k : Nat} {fa : Addr} {fd : FuncData} (F : Fun G.K "_law_drawn" "_law_drawn" s__law_drawn fa fd) (blt : ∀ x ∈ bnames, G.mg (Str.ofString x) = none) (h__law_cell : CallOk G k "_law_cell" f__law_cell) : FnOk G.P G.w G.K G.mg G.base (L2.CX G.P G.w) (k + 1) fa fd ["_law_script", "_law_k", "_law_many"] (spOf G.cA f__law_drawn) :=
  fn_sem F sc__law_drawn m__law_drawn (by decide) (allN_of (m := [.call "_law_cell" f__law_cell]) (by with_unfolding_all rfl) ⟨h__law_cell, trivial⟩) blt
theorem ok__law_orders {G : Gx} {k : Nat} {fa : Addr} {fd : FuncData} (F : Fun G.K "_law_orders" "_law_orders" s__law_orders fa fd) (blt : ∀ x ∈ bnames, G.mg (Str.ofString x) = none) (h__law_drawn : CallOk G k "_law_drawn" f__law_drawn) : FnOk G.P G.w G.K G.mg G.base (L2.CX G.P G.w) (k + 1) fa fd ["_law_script", "_law_at", "_law_rows"] (spOf G.cA f__law_orders) :=
  fn_sem F sc__law_orders m__law_orders (by decide) (allN_of (m := [.call "_law_drawn" f__law_drawn]) (by with_unfolding_all rfl) ⟨h__law_drawn, trivial⟩) blt
theorem ok__law_world {G : Gx} {k : Nat} {fa : Addr} {fd : FuncData} (F : Fun G.K "_law_world" "_law_world" s__law_world fa fd) (blt : ∀ x ∈ bnames, G.mg (Str.ofString x) = none) (h__law_drawn : CallOk G k "_law_drawn" f__law_drawn) (h__law_orders : CallOk G k "_law_orders" f__law_orders) : FnOk G.P G.w G.K G.mg G.base (L2.CX G.P G.w) (k + 1) fa fd ["_law_script", "_law_at", "_law_most"] (spOf G.cA f__law_world) :=
  fn_sem F sc__law_world m__law_world (by decide) (allN_of (m := [.call "_law_drawn" f__law_drawn, .call "_law_drawn" f__law_drawn, .call "_law_drawn" f__law_drawn, .call "_law_drawn" f__law_drawn, .call "_law_drawn" f__law_drawn, .call "_law_drawn" f__law_drawn, .call "_law_orders" f__law_orders, .call "_law_orders" f__law_orders, .call "_law_drawn" f__law_drawn, .call "_law_drawn" f__law_drawn]) (by with_unfolding_all rfl) ⟨h__law_drawn, h__law_drawn, h__law_drawn, h__law_drawn, h__law_drawn, h__law_drawn, h__law_orders, h__law_orders, h__law_drawn, h__law_drawn, trivial⟩) blt
theorem ok__law_used {G : Gx} {k : Nat} {fa : Addr} {fd : FuncData} (F : Fun G.K "_law_used" "_law_used" s__law_used fa fd) (blt : ∀ x ∈ bnames, G.mg (Str.ofString x) = none)  : FnOk G.P G.w G.K G.mg G.base (L2.CX G.P G.w) (k + 1) fa fd ["_law_world_here", "_law_plan_here", "_law_side", "_law_place"] (spOf G.cA f__law_used) :=
  fn_sem F sc__law_used m__law_used (by decide) (allN_of (m := []) (by with_unfolding_all rfl) trivial) blt
theorem ok__law_fits {G : Gx} {k : Nat} {fa : Addr} {fd : FuncData} (F : Fun G.K "_law_fits" "_law_fits" s__law_fits fa fd) (blt : ∀ x ∈ bnames, G.mg (Str.ofString x) = none) (h__law_used : CallOk G k "_law_used" f__law_used) : FnOk G.P G.w G.K G.mg G.base (L2.CX G.P G.w) (k + 1) fa fd ["_law_world_here", "_law_plan_here"] (spOf G.cA f__law_fits) :=
  fn_sem F sc__law_fits m__law_fits (by decide) (allN_of (m := [.call "_law_used" f__law_used]) (by with_unfolding_all rfl) ⟨h__law_used, trivial⟩) blt
theorem ok__law_plan {G : Gx} {k : Nat} {fa : Addr} {fd : FuncData} (F : Fun G.K "_law_plan" "_law_plan" s__law_plan fa fd) (blt : ∀ x ∈ bnames, G.mg (Str.ofString x) = none) (h__law_drawn : CallOk G k "_law_drawn" f__law_drawn) (h__law_fits : CallOk G k "_law_fits" f__law_fits) : FnOk G.P G.w G.K G.mg G.base (L2.CX G.P G.w) (k + 1) fa fd ["_law_script", "_law_at", "_law_world_here"] (spOf G.cA f__law_plan) :=
  fn_sem F sc__law_plan m__law_plan (by decide) (allN_of (m := [.call "_law_drawn" f__law_drawn, .call "_law_fits" f__law_fits]) (by with_unfolding_all rfl) ⟨h__law_drawn, h__law_fits, trivial⟩) blt
theorem ok_are_places {G : Gx} {k : Nat} {fa : Addr} {fd : FuncData} (F : Fun G.K "are_places" "are_places" s_are_places fa fd) (blt : ∀ x ∈ bnames, G.mg (Str.ofString x) = none) (c_MOST_PLACES : ConstAt G "MOST_PLACES" (.int 4)) : FnOk G.P G.w G.K G.mg G.base (L2.CX G.P G.w) (k + 1) fa fd ["thing"] (spOf G.cA f_are_places) :=
  fn_sem F sc_are_places m_are_places (by decide) (allN_of (m := [.cst "MOST_PLACES" (.int 4)]) (by with_unfolding_all rfl) ⟨c_MOST_PLACES, trivial⟩) blt
theorem ok_is_number {G : Gx} {k : Nat} {fa : Addr} {fd : FuncData} (F : Fun G.K "is_number" "is_number" s_is_number fa fd) (blt : ∀ x ∈ bnames, G.mg (Str.ofString x) = none)  : FnOk G.P G.w G.K G.mg G.base (L2.CX G.P G.w) (k + 1) fa fd ["thing", "low", "high"] (spOf G.cA f_is_number) :=
  fn_sem F sc_is_number m_is_number (by decide) (allN_of (m := []) (by with_unfolding_all rfl) trivial) blt
theorem ok_is_place {G : Gx} {k : Nat} {fa : Addr} {fd : FuncData} (F : Fun G.K "is_place" "is_place" s_is_place fa fd) (blt : ∀ x ∈ bnames, G.mg (Str.ofString x) = none) (h_is_number : CallOk G k "is_number" f_is_number) (c_MOST_AMOUNT : ConstAt G "MOST_AMOUNT" (.int 9)) : FnOk G.P G.w G.K G.mg G.base (L2.CX G.P G.w) (k + 1) fa fd ["thing", "many"] (spOf G.cA f_is_place) :=
  fn_sem F sc_is_place m_is_place (by decide) (allN_of (m := [.call "is_number" f_is_number, .cst "MOST_AMOUNT" (.int 9), .call "is_number" f_is_number]) (by with_unfolding_all rfl) ⟨h_is_number, c_MOST_AMOUNT, h_is_number, trivial⟩) blt
theorem ok_is_way {G : Gx} {k : Nat} {fa : Addr} {fd : FuncData} (F : Fun G.K "is_way" "is_way" s_is_way fa fd) (blt : ∀ x ∈ bnames, G.mg (Str.ofString x) = none) (h_is_number : CallOk G k "is_number" f_is_number) (c_MOST_AMOUNT : ConstAt G "MOST_AMOUNT" (.int 9)) : FnOk G.P G.w G.K G.mg G.base (L2.CX G.P G.w) (k + 1) fa fd ["thing", "givers", "takers"] (spOf G.cA f_is_way) :=
  fn_sem F sc_is_way m_is_way (by decide) (allN_of (m := [.call "is_number" f_is_number, .cst "MOST_AMOUNT" (.int 9), .call "is_number" f_is_number, .call "is_number" f_is_number]) (by with_unfolding_all rfl) ⟨h_is_number, c_MOST_AMOUNT, h_is_number, h_is_number, trivial⟩) blt
theorem ok_is_world {G : Gx} {k : Nat} {fa : Addr} {fd : FuncData} (F : Fun G.K "is_world" "is_world" s_is_world fa fd) (blt : ∀ x ∈ bnames, G.mg (Str.ofString x) = none) (h_are_places : CallOk G k "are_places" f_are_places) (h_is_place : CallOk G k "is_place" f_is_place) (h_is_way : CallOk G k "is_way" f_is_way) : FnOk G.P G.w G.K G.mg G.base (L2.CX G.P G.w) (k + 1) fa fd ["thing"] (spOf G.cA f_is_world) :=
  fn_sem F sc_is_world m_is_world (by decide) (allN_of (m := [.call "are_places" f_are_places, .call "are_places" f_are_places, .call "is_place" f_is_place, .call "is_place" f_is_place, .call "is_way" f_is_way]) (by with_unfolding_all rfl) ⟨h_are_places, h_are_places, h_is_place, h_is_place, h_is_way, trivial⟩) blt
theorem ok_need_world {G : Gx} {k : Nat} {fa : Addr} {fd : FuncData} (F : Fun G.K "need_world" "need_world" s_need_world fa fd) (blt : ∀ x ∈ bnames, G.mg (Str.ofString x) = none) (h_is_world : CallOk G k "is_world" f_is_world) (e_NoWorld : ExcOk G "NoWorld" 0) : FnOk G.P G.w G.K G.mg G.base (L2.CX G.P G.w) (k + 1) fa fd ["world"] (spOf G.cA f_need_world) :=
  fn_sem F sc_need_world m_need_world (by decide) (allN_of (m := [.call "is_world" f_is_world, .exc "NoWorld" 0]) (by with_unfolding_all rfl) ⟨h_is_world, e_NoWorld, trivial⟩) blt
theorem ok_limits {G : Gx} {k : Nat} {fa : Addr} {fd : FuncData} (F : Fun G.K "limits" "limits" s_limits fa fd) (blt : ∀ x ∈ bnames, G.mg (Str.ofString x) = none)  : FnOk G.P G.w G.K G.mg G.base (L2.CX G.P G.w) (k + 1) fa fd ["world"] (spOf G.cA f_limits) :=
  fn_sem F sc_limits m_limits (by decide) (allN_of (m := []) (by with_unfolding_all rfl) trivial) blt
theorem ok_ways_liked {G : Gx} {k : Nat} {fa : Addr} {fd : FuncData} (F : Fun G.K "ways_liked" "ways_liked" s_ways_liked fa fd) (blt : ∀ x ∈ bnames, G.mg (Str.ofString x) = none)  : FnOk G.P G.w G.K G.mg G.base (L2.CX G.P G.w) (k + 1) fa fd ["world", "side", "place"] (spOf G.cA f_ways_liked) :=
  fn_sem F sc_ways_liked m_ways_liked (by decide) (allN_of (m := []) (by with_unfolding_all rfl) trivial) blt
theorem ok_chosen {G : Gx} {k : Nat} {fa : Addr} {fd : FuncData} (F : Fun G.K "chosen" "chosen" s_chosen fa fd) (blt : ∀ x ∈ bnames, G.mg (Str.ofString x) = none) (h_ways_liked : CallOk G k "ways_liked" f_ways_liked) : FnOk G.P G.w G.K G.mg G.base (L2.CX G.P G.w) (k + 1) fa fd ["world", "side", "place", "offers"] (spOf G.cA f_chosen) :=
  fn_sem F sc_chosen m_chosen (by decide) (allN_of (m := [.call "ways_liked" f_ways_liked]) (by with_unfolding_all rfl) ⟨h_ways_liked, trivial⟩) blt
theorem ok_both_ends {G : Gx} {k : Nat} {fa : Addr} {fd : FuncData} (F : Fun G.K "both_ends" "both_ends" s_both_ends fa fd) (blt : ∀ x ∈ bnames, G.mg (Str.ofString x) = none) (h_chosen : CallOk G k "chosen" f_chosen) : FnOk G.P G.w G.K G.mg G.base (L2.CX G.P G.w) (k + 1) fa fd ["world", "side", "offers"] (spOf G.cA f_both_ends) :=
  fn_sem F sc_both_ends m_both_ends (by decide) (allN_of (m := [.call "chosen" f_chosen]) (by with_unfolding_all rfl) ⟨h_chosen, trivial⟩) blt
theorem ok_refused {G : Gx} {k : Nat} {fa : Addr} {fd : FuncData} (F : Fun G.K "refused" "refused" s_refused fa fd) (blt : ∀ x ∈ bnames, G.mg (Str.ofString x) = none) (h_both_ends : CallOk G k "both_ends" f_both_ends) : FnOk G.P G.w G.K G.mg G.base (L2.CX G.P G.w) (k + 1) fa fd ["world", "caps"] (spOf G.cA f_refused) :=
  fn_sem F sc_refused m_refused (by decide) (allN_of (m := [.call "both_ends" f_both_ends, .call "both_ends" f_both_ends]) (by with_unfolding_all rfl) ⟨h_both_ends, h_both_ends, trivial⟩) blt
theorem ok_lowered {G : Gx} {k : Nat} {fa : Addr} {fd : FuncData} (F : Fun G.K "lowered" "lowered" s_lowered fa fd) (blt : ∀ x ∈ bnames, G.mg (Str.ofString x) = none)  : FnOk G.P G.w G.K G.mg G.base (L2.CX G.P G.w) (k + 1) fa fd ["caps", "way", "cap"] (spOf G.cA f_lowered) :=
  fn_sem F sc_lowered m_lowered (by decide) (allN_of (m := []) (by with_unfolding_all rfl) trivial) blt
theorem ok_steps {G : Gx} {k : Nat} {fa : Addr} {fd : FuncData} (F : Fun G.K "steps" "steps" s_steps fa fd) (blt : ∀ x ∈ bnames, G.mg (Str.ofString x) = none) (h_limits : CallOk G k "limits" f_limits) (h_refused : CallOk G k "refused" f_refused) (h_lowered : CallOk G k "lowered" f_lowered) : FnOk G.P G.w G.K G.mg G.base (L2.CX G.P G.w) (k + 1) fa fd ["world"] (spOf G.cA f_steps) :=
  fn_sem F sc_steps m_steps (by decide) (allN_of (m := [.call "limits" f_limits, .call "refused" f_refused, .call "lowered" f_lowered, .call "refused" f_refused]) (by with_unfolding_all rfl) ⟨h_limits, h_refused, h_lowered, h_refused, trivial⟩) blt
theorem ok_paper {G : Gx} {k : Nat} {fa : Addr} {fd : FuncData} (F : Fun G.K "paper" "paper" s_paper fa fd) (blt : ∀ x ∈ bnames, G.mg (Str.ofString x) = none) (h_need_world : CallOk G k "need_world" f_need_world) (h_steps : CallOk G k "steps" f_steps) : FnOk G.P G.w G.K G.mg G.base (L2.CX G.P G.w) (k + 1) fa fd ["world"] (spOf G.cA f_paper) :=
  fn_sem F sc_paper m_paper (by decide) (allN_of (m := [.call "need_world" f_need_world, .call "steps" f_steps]) (by with_unfolding_all rfl) ⟨h_need_world, h_steps, trivial⟩) blt
theorem ok_capped {G : Gx} {k : Nat} {fa : Addr} {fd : FuncData} (F : Fun G.K "capped" "capped" s_capped fa fd) (blt : ∀ x ∈ bnames, G.mg (Str.ofString x) = none) (h_limits : CallOk G k "limits" f_limits) (h_lowered : CallOk G k "lowered" f_lowered) : FnOk G.P G.w G.K G.mg G.base (L2.CX G.P G.w) (k + 1) fa fd ["world", "rows"] (spOf G.cA f_capped) :=
  fn_sem F sc_capped m_capped (by decide) (allN_of (m := [.call "limits" f_limits, .call "lowered" f_lowered]) (by with_unfolding_all rfl) ⟨h_limits, h_lowered, trivial⟩) blt
theorem ok_givers_best {G : Gx} {k : Nat} {fa : Addr} {fd : FuncData} (F : Fun G.K "givers_best" "givers_best" s_givers_best fa fd) (blt : ∀ x ∈ bnames, G.mg (Str.ofString x) = none) (h_need_world : CallOk G k "need_world" f_need_world) (h_both_ends : CallOk G k "both_ends" f_both_ends) (h_capped : CallOk G k "capped" f_capped) (h_steps : CallOk G k "steps" f_steps) : FnOk G.P G.w G.K G.mg G.base (L2.CX G.P G.w) (k + 1) fa fd ["world"] (spOf G.cA f_givers_best) :=
  fn_sem F sc_givers_best m_givers_best (by decide) (allN_of (m := [.call "need_world" f_need_world, .call "both_ends" f_both_ends, .call "capped" f_capped, .call "steps" f_steps]) (by with_unfolding_all rfl) ⟨h_need_world, h_both_ends, h_capped, h_steps, trivial⟩) blt
theorem ok_turned {G : Gx} {k : Nat} {fa : Addr} {fd : FuncData} (F : Fun G.K "turned" "turned" s_turned fa fd) (blt : ∀ x ∈ bnames, G.mg (Str.ofString x) = none) (h_need_world : CallOk G k "need_world" f_need_world) : FnOk G.P G.w G.K G.mg G.base (L2.CX G.P G.w) (k + 1) fa fd ["world"] (spOf G.cA f_turned) :=
  fn_sem F sc_turned m_turned (by decide) (allN_of (m := [.call "need_world" f_need_world]) (by with_unfolding_all rfl) ⟨h_need_world, trivial⟩) blt
theorem ok_used {G : Gx} {k : Nat} {fa : Addr} {fd : FuncData} (F : Fun G.K "used" "used" s_used fa fd) (blt : ∀ x ∈ bnames, G.mg (Str.ofString x) = none)  : FnOk G.P G.w G.K G.mg G.base (L2.CX G.P G.w) (k + 1) fa fd ["world", "plan", "side", "place"] (spOf G.cA f_used) :=
  fn_sem F sc_used m_used (by decide) (allN_of (m := []) (by with_unfolding_all rfl) trivial) blt
theorem ok_is_plan {G : Gx} {k : Nat} {fa : Addr} {fd : FuncData} (F : Fun G.K "is_plan" "is_plan" s_is_plan fa fd) (blt : ∀ x ∈ bnames, G.mg (Str.ofString x) = none) (h_is_number : CallOk G k "is_number" f_is_number) (h_used : CallOk G k "used" f_used) : FnOk G.P G.w G.K G.mg G.base (L2.CX G.P G.w) (k + 1) fa fd ["world", "thing"] (spOf G.cA f_is_plan) :=
  fn_sem F sc_is_plan m_is_plan (by decide) (allN_of (m := [.call "is_number" f_is_number, .call "used" f_used]) (by with_unfolding_all rfl) ⟨h_is_number, h_used, trivial⟩) blt
theorem ok_need_plan {G : Gx} {k : Nat} {fa : Addr} {fd : FuncData} (F : Fun G.K "need_plan" "need_plan" s_need_plan fa fd) (blt : ∀ x ∈ bnames, G.mg (Str.ofString x) = none) (h_need_world : CallOk G k "need_world" f_need_world) (h_is_plan : CallOk G k "is_plan" f_is_plan) (e_NoPlan : ExcOk G "NoPlan" 1) : FnOk G.P G.w G.K G.mg G.base (L2.CX G.P G.w) (k + 1) fa fd ["world", "plan"] (spOf G.cA f_need_plan) :=
  fn_sem F sc_need_plan m_need_plan (by decide) (allN_of (m := [.call "need_world" f_need_world, .call "is_plan" f_is_plan, .exc "NoPlan" 1]) (by with_unfolding_all rfl) ⟨h_need_world, h_is_plan, e_NoPlan, trivial⟩) blt
theorem ok_turned_plan {G : Gx} {k : Nat} {fa : Addr} {fd : FuncData} (F : Fun G.K "turned_plan" "turned_plan" s_turned_plan fa fd) (blt : ∀ x ∈ bnames, G.mg (Str.ofString x) = none) (h_need_plan : CallOk G k "need_plan" f_need_plan) : FnOk G.P G.w G.K G.mg G.base (L2.CX G.P G.w) (k + 1) fa fd ["world", "plan"] (spOf G.cA f_turned_plan) :=
  fn_sem F sc_turned_plan m_turned_plan (by decide) (allN_of (m := [.call "need_plan" f_need_plan]) (by with_unfolding_all rfl) ⟨h_need_plan, trivial⟩) blt
theorem ok_takers_best {G : Gx} {k : Nat} {fa : Addr} {fd : FuncData} (F : Fun G.K "takers_best" "takers_best" s_takers_best fa fd) (blt : ∀ x ∈ bnames, G.mg (Str.ofString x) = none) (h_turned : CallOk G k "turned" f_turned) (h_turned_plan : CallOk G k "turned_plan" f_turned_plan) (h_givers_best : CallOk G k "givers_best" f_givers_best) : FnOk G.P G.w G.K G.mg G.base (L2.CX G.P G.w) (k + 1) fa fd ["world"] (spOf G.cA f_takers_best) :=
  fn_sem F sc_takers_best m_takers_best (by decide) (allN_of (m := [.call "turned" f_turned, .call "turned_plan" f_turned_plan, .call "givers_best" f_givers_best]) (by with_unfolding_all rfl) ⟨h_turned, h_turned_plan, h_givers_best, trivial⟩) blt
theorem ok_is_within {G : Gx} {k : Nat} {fa : Addr} {fd : FuncData} (F : Fun G.K "is_within" "is_within" s_is_within fa fd) (blt : ∀ x ∈ bnames, G.mg (Str.ofString x) = none) (h_need_world : CallOk G k "need_world" f_need_world) (h_is_plan : CallOk G k "is_plan" f_is_plan) : FnOk G.P G.w G.K G.mg G.base (L2.CX G.P G.w) (k + 1) fa fd ["world", "plan", "caps"] (spOf G.cA f_is_within) :=
  fn_sem F sc_is_within m_is_within (by decide) (allN_of (m := [.call "need_world" f_need_world, .call "is_plan" f_is_plan]) (by with_unfolding_all rfl) ⟨h_need_world, h_is_plan, trivial⟩) blt
theorem ok_is_row {G : Gx} {k : Nat} {fa : Addr} {fd : FuncData} (F : Fun G.K "is_row" "is_row" s_is_row fa fd) (blt : ∀ x ∈ bnames, G.mg (Str.ofString x) = none) (h_need_world : CallOk G k "need_world" f_need_world) (h_is_number : CallOk G k "is_number" f_is_number) : FnOk G.P G.w G.K G.mg G.base (L2.CX G.P G.w) (k + 1) fa fd ["world", "thing"] (spOf G.cA f_is_row) :=
  fn_sem F sc_is_row m_is_row (by decide) (allN_of (m := [.call "need_world" f_need_world, .call "is_number" f_is_number, .call "is_number" f_is_number]) (by with_unfolding_all rfl) ⟨h_need_world, h_is_number, h_is_number, trivial⟩) blt
theorem ok_holds {G : Gx} {k : Nat} {fa : Addr} {fd : FuncData} (F : Fun G.K "holds" "holds" s_holds fa fd) (blt : ∀ x ∈ bnames, G.mg (Str.ofString x) = none) (h_need_world : CallOk G k "need_world" f_need_world) (h_limits : CallOk G k "limits" f_limits) (h_is_row : CallOk G k "is_row" f_is_row) (h_both_ends : CallOk G k "both_ends" f_both_ends) (h_lowered : CallOk G k "lowered" f_lowered) : FnOk G.P G.w G.K G.mg G.base (L2.CX G.P G.w) (k + 1) fa fd ["world", "rows"] (spOf G.cA f_holds) :=
  fn_sem F sc_holds m_holds (by decide) (allN_of (m := [.call "need_world" f_need_world, .call "limits" f_limits, .call "is_row" f_is_row, .call "both_ends" f_both_ends, .call "both_ends" f_both_ends, .call "lowered" f_lowered]) (by with_unfolding_all rfl) ⟨h_need_world, h_limits, h_is_row, h_both_ends, h_both_ends, h_lowered, trivial⟩) blt
theorem ok_caps_of {G : Gx} {k : Nat} {fa : Addr} {fd : FuncData} (F : Fun G.K "caps_of" "caps_of" s_caps_of fa fd) (blt : ∀ x ∈ bnames, G.mg (Str.ofString x) = none) (h_holds : CallOk G k "holds" f_holds) (h_capped : CallOk G k "capped" f_capped) : FnOk G.P G.w G.K G.mg G.base (L2.CX G.P G.w) (k + 1) fa fd ["world", "rows"] (spOf G.cA f_caps_of) :=
  fn_sem F sc_caps_of m_caps_of (by decide) (allN_of (m := [.call "holds" f_holds, .call "capped" f_capped]) (by with_unfolding_all rfl) ⟨h_holds, h_capped, trivial⟩) blt
theorem ok_wants {G : Gx} {k : Nat} {fa : Addr} {fd : FuncData} (F : Fun G.K "wants" "wants" s_wants fa fd) (blt : ∀ x ∈ bnames, G.mg (Str.ofString x) = none) (h_used : CallOk G k "used" f_used) (h_ways_liked : CallOk G k "ways_liked" f_ways_liked) : FnOk G.P G.w G.K G.mg G.base (L2.CX G.P G.w) (k + 1) fa fd ["world", "plan", "side", "place", "way"] (spOf G.cA f_wants) :=
  fn_sem F sc_wants m_wants (by decide) (allN_of (m := [.call "used" f_used, .call "ways_liked" f_ways_liked]) (by with_unfolding_all rfl) ⟨h_used, h_ways_liked, trivial⟩) blt
theorem ok_would_leave {G : Gx} {k : Nat} {fa : Addr} {fd : FuncData} (F : Fun G.K "would_leave" "would_leave" s_would_leave fa fd) (blt : ∀ x ∈ bnames, G.mg (Str.ofString x) = none) (h_wants : CallOk G k "wants" f_wants) : FnOk G.P G.w G.K G.mg G.base (L2.CX G.P G.w) (k + 1) fa fd ["world", "plan", "way"] (spOf G.cA f_would_leave) :=
  fn_sem F sc_would_leave m_would_leave (by decide) (allN_of (m := [.call "wants" f_wants, .call "wants" f_wants]) (by with_unfolding_all rfl) ⟨h_wants, h_wants, trivial⟩) blt
theorem ok_leaving {G : Gx} {k : Nat} {fa : Addr} {fd : FuncData} (F : Fun G.K "leaving" "leaving" s_leaving fa fd) (blt : ∀ x ∈ bnames, G.mg (Str.ofString x) = none) (h_need_plan : CallOk G k "need_plan" f_need_plan) (h_would_leave : CallOk G k "would_leave" f_would_leave) : FnOk G.P G.w G.K G.mg G.base (L2.CX G.P G.w) (k + 1) fa fd ["world", "plan"] (spOf G.cA f_leaving) :=
  fn_sem F sc_leaving m_leaving (by decide) (allN_of (m := [.call "need_plan" f_need_plan, .call "would_leave" f_would_leave]) (by with_unfolding_all rfl) ⟨h_need_plan, h_would_leave, trivial⟩) blt
theorem ok_rests {G : Gx} {k : Nat} {fa : Addr} {fd : FuncData} (F : Fun G.K "rests" "rests" s_rests fa fd) (blt : ∀ x ∈ bnames, G.mg (Str.ofString x) = none) (h_leaving : CallOk G k "leaving" f_leaving) : FnOk G.P G.w G.K G.mg G.base (L2.CX G.P G.w) (k + 1) fa fd ["world", "plan"] (spOf G.cA f_rests) :=
  fn_sem F sc_rests m_rests (by decide) (allN_of (m := [.call "leaving" f_leaving]) (by with_unfolding_all rfl) ⟨h_leaving, trivial⟩) blt
theorem ok_shows {G : Gx} {k : Nat} {fa : Addr} {fd : FuncData} (F : Fun G.K "shows" "shows" s_shows fa fd) (blt : ∀ x ∈ bnames, G.mg (Str.ofString x) = none) (h_need_plan : CallOk G k "need_plan" f_need_plan) (h_holds : CallOk G k "holds" f_holds) (h_rests : CallOk G k "rests" f_rests) (h_both_ends : CallOk G k "both_ends" f_both_ends) (h_capped : CallOk G k "capped" f_capped) : FnOk G.P G.w G.K G.mg G.base (L2.CX G.P G.w) (k + 1) fa fd ["world", "plan", "rows"] (spOf G.cA f_shows) :=
  fn_sem F sc_shows m_shows (by decide) (allN_of (m := [.call "need_plan" f_need_plan, .call "holds" f_holds, .call "rests" f_rests, .call "both_ends" f_both_ends, .call "capped" f_capped]) (by with_unfolding_all rfl) ⟨h_need_plan, h_holds, h_rests, h_both_ends, h_capped, trivial⟩) blt
theorem ok_law {G : Gx} {k : Nat} {fa : Addr} {fd : FuncData} (F : Fun G.K "law" "law" s_law fa fd) (blt : ∀ x ∈ bnames, G.mg (Str.ofString x) = none) (h__law_world : CallOk G k "_law_world" f__law_world) (h__law_plan : CallOk G k "_law_plan" f__law_plan) (h_paper : CallOk G k "paper" f_paper) (h_givers_best : CallOk G k "givers_best" f_givers_best) (h_takers_best : CallOk G k "takers_best" f_takers_best) (h_steps : CallOk G k "steps" f_steps) (h_is_within : CallOk G k "is_within" f_is_within) (h_limits : CallOk G k "limits" f_limits) (h_caps_of : CallOk G k "caps_of" f_caps_of) (h_capped : CallOk G k "capped" f_capped) (h_refused : CallOk G k "refused" f_refused) (h_shows : CallOk G k "shows" f_shows) (h_lowered : CallOk G k "lowered" f_lowered) (h_holds : CallOk G k "holds" f_holds) (h_rests : CallOk G k "rests" f_rests) : FnOk G.P G.w G.K G.mg G.base (L2.CX G.P G.w) (k + 1) fa fd ["_law_script"] (spOf G.cA f_law) :=
  fn_sem F sc_law m_law (by decide) (allN_of (m := [.call "_law_world" f__law_world, .call "_law_plan" f__law_plan, .call "paper" f_paper, .call "givers_best" f_givers_best, .call "takers_best" f_takers_best, .call "steps" f_steps, .call "is_within" f_is_within, .call "limits" f_limits, .call "caps_of" f_caps_of, .call "limits" f_limits, .call "limits" f_limits, .call "caps_of" f_caps_of, .call "capped" f_capped, .call "is_within" f_is_within, .call "is_within" f_is_within, .call "is_within" f_is_within, .call "refused" f_refused, .call "shows" f_shows, .call "shows" f_shows, .call "lowered" f_lowered, .call "is_within" f_is_within, .call "is_within" f_is_within, .call "holds" f_holds, .call "shows" f_shows, .call "rests" f_rests]) (by with_unfolding_all rfl) ⟨h__law_world, h__law_plan, h_paper, h_givers_best, h_takers_best, h_steps, h_is_within, h_limits, h_caps_of, h_limits, h_limits, h_caps_of, h_capped, h_is_within, h_is_within, h_is_within, h_refused, h_shows, h_shows, h_lowered, h_is_within, h_is_within, h_holds, h_shows, h_rests, trivial⟩) blt
end
theorem all_mk (hlaw : ∀ ns : List Int, ns.length ≤ 63 → f_law [scrD ns] = .ok (.bool true)) {l : PySem.W.OpenLaw} {w : World} {K : PySem.W.Frag} {h : Heap} {mg : Str → Option Value} {fa f_0 f_1 f_2 f_3 f_4 f_5 f_6 f_7 f_8 f_9 f_10 f_11 f_12 f_13 f_14 f_15 f_16 f_17 f_18 f_19 f_20 f_21 f_22 f_23 f_24 f_25 f_26 f_27 f_28 f_29 f_30 f_31 f_32 f_33 f_34 f_35 f_36 f_37 f_38 C_NoWorld C_NoPlan : Addr} (X : K.In h) (Gn : h.Ns mainGlobals mg) (hfa : mg "law" = some (.ref fa))
    {od0 an0 od1 an1 od2 an2 od3 an3 od4 an4 od5 an5 od6 an6 od7 an7 od8 an8 od9 an9 od10 an10 od11 an11 od12 an12 od13 an13 od14 an14 od15 an15 od16 an16 od17 an17 od18 an18 od19 an19 od20 an20 od21 an21 od22 an22 od23 an23 od24 an24 od25 an25 od26 an26 od27 an27 od28 an28 od29 an29 od30 an30 od31 an31 od32 an32 od33 an33 od34 an34 od35 an35 od36 an36 od37 an37 od38 an38 : Option Addr} {sl0 sl1 sl2 sl3 sl4 sl5 sl6 sl7 sl8 sl9 sl10 sl11 sl12 sl13 sl14 sl15 sl16 sl17 sl18 sl19 sl20 sl21 sl22 sl23 sl24 sl25 sl26 sl27 sl28 sl29 sl30 sl31 sl32 sl33 sl34 sl35 sl36 sl37 sl38 : Array (Option Value)} {oc0 kV0 dc0 pm0 cd0 ct0 oc1 kV1 dc1 pm1 cd1 ct1 oc2 kV2 dc2 pm2 cd2 ct2 oc3 kV3 dc3 pm3 cd3 ct3 oc4 kV4 dc4 pm4 cd4 ct4 oc5 kV5 dc5 pm5 cd5 ct5 oc6 kV6 dc6 pm6 cd6 ct6 oc7 kV7 dc7 pm7 cd7 ct7 oc8 kV8 dc8 pm8 cd8 ct8 oc9 kV9 dc9 pm9 cd9 ct9 oc10 kV10 dc10 pm10 cd10 ct10 oc11 kV11 dc11 pm11 cd11 ct11 oc12 kV12 dc12 pm12 cd12 ct12 oc13 kV13 dc13 pm13 cd13 ct13 oc14 kV14 dc14 pm14 cd14 ct14 oc15 kV15 dc15 pm15 cd15 ct15 oc16 kV16 dc16 pm16 cd16 ct16 oc17 kV17 dc17 pm17 cd17 ct17 oc18 kV18 dc18 pm18 cd18 ct18 oc19 kV19 dc19 pm19 cd19 ct19 oc20 kV20 dc20 pm20 cd20 ct20 oc21 kV21 dc21 pm21 cd21 ct21 oc22 kV22 dc22 pm22 cd22 ct22 oc23 kV23 dc23 pm23 cd23 ct23 oc24 kV24 dc24 pm24 cd24 ct24 oc25 kV25 dc25 pm25 cd25 ct25 oc26 kV26 dc26 pm26 cd26 ct26 oc27 kV27 dc27 pm27 cd27 ct27 oc28 kV28 dc28 pm28 cd28 ct28 oc29 kV29 dc29 pm29 cd29 ct29 oc30 kV30 dc30 pm30 cd30 ct30 oc31 kV31 dc31 pm31 cd31 ct31 oc32 kV32 dc32 pm32 cd32 ct32 oc33 kV33 dc33 pm33 cd33 ct33 oc34 kV34 dc34 pm34 cd34 ct34 oc35 kV35 dc35 pm35 cd35 ct35 oc36 kV36 dc36 pm36 cd36 ct36 oc37 kV37 dc37 pm37 cd37 ct37 oc38 kV38 dc38 pm38 cd38 ct38 : Value}
    (a0 : PySem.W.nsIn K mainGlobals "_law_cell" = some (some (.ref f_0))) (l0 : K.lookup f_0 = some ⟨oc0, od0, .func (PySem.W.fnOf "_law_cell" "_law_cell" (defArgs s__law_cell) (defBody s__law_cell) (defScope s__law_cell) .none kV0 dc0 pm0 an0 cd0 ct0), sl0⟩) (c0 : PySem.W.codeIn K cd0 "_law_cell" = true) (k0 : PySem.W.keepIn K (.ref f_0) = true)
    (a1 : PySem.W.nsIn K mainGlobals "_law_drawn" = some (some (.ref f_1))) (l1 : K.lookup f_1 = some ⟨oc1, od1, .func (PySem.W.fnOf "_law_drawn" "_law_drawn" (defArgs s__law_drawn) (defBody s__law_drawn) (defScope s__law_drawn) .none kV1 dc1 pm1 an1 cd1 ct1), sl1⟩) (c1 : PySem.W.codeIn K cd1 "_law_drawn" = true) (k1 : PySem.W.keepIn K (.ref f_1) = true)
    (a2 : PySem.W.nsIn K mainGlobals "_law_orders" = some (some (.ref f_2))) (l2 : K.lookup f_2 = some ⟨oc2, od2, .func (PySem.W.fnOf "_law_orders" "_law_orders" (defArgs s__law_orders) (defBody s__law_orders) (defScope s__law_orders) .none kV2 dc2 pm2 an2 cd2 ct2), sl2⟩) (c2 : PySem.W.codeIn K cd2 "_law_orders" = true) (k2 : PySem.W.keepIn K (.ref f_2) = true)
    (a3 : PySem.W.nsIn K mainGlobals "_law_world" = some (some (.ref f_3))) (l3 : K.lookup f_3 = some ⟨oc3, od3, .func (PySem.W.fnOf "_law_world" "_law_world" (defArgs s__law_world) (defBody s__law_world) (defScope s__law_world) .none kV3 dc3 pm3 an3 cd3 ct3), sl3⟩) (c3 : PySem.W.codeIn K cd3 "_law_world" = true) (k3 : PySem.W.keepIn K (.ref f_3) = true)
    (a4 : PySem.W.nsIn K mainGlobals "_law_used" = some (some (.ref f_4))) (l4 : K.lookup f_4 = some ⟨oc4, od4, .func (PySem.W.fnOf "_law_used" "_law_used" (defArgs s__law_used) (defBody s__law_used) (defScope s__law_used) .none kV4 dc4 pm4 an4 cd4 ct4), sl4⟩) (c4 : PySem.W.codeIn K cd4 "_law_used" = true) (k4 : PySem.W.keepIn K (.ref f_4) = true)
    (a5 : PySem.W.nsIn K mainGlobals "_law_fits" = some (some (.ref f_5))) (l5 : K.lookup f_5 = some ⟨oc5, od5, .func (PySem.W.fnOf "_law_fits" "_law_fits" (defArgs s__law_fits) (defBody s__law_fits) (defScope s__law_fits) .none kV5 dc5 pm5 an5 cd5 ct5), sl5⟩) (c5 : PySem.W.codeIn K cd5 "_law_fits" = true) (k5 : PySem.W.keepIn K (.ref f_5) = true)
    (a6 : PySem.W.nsIn K mainGlobals "_law_plan" = some (some (.ref f_6))) (l6 : K.lookup f_6 = some ⟨oc6, od6, .func (PySem.W.fnOf "_law_plan" "_law_plan" (defArgs s__law_plan) (defBody s__law_plan) (defScope s__law_plan) .none kV6 dc6 pm6 an6 cd6 ct6), sl6⟩) (c6 : PySem.W.codeIn K cd6 "_law_plan" = true) (k6 : PySem.W.keepIn K (.ref f_6) = true)
    (a7 : PySem.W.nsIn K mainGlobals "are_places" = some (some (.ref f_7))) (l7 : K.lookup f_7 = some ⟨oc7, od7, .func (PySem.W.fnOf "are_places" "are_places" (defArgs s_are_places) (defBody s_are_places) (defScope s_are_places) .none kV7 dc7 pm7 an7 cd7 ct7), sl7⟩) (c7 : PySem.W.codeIn K cd7 "are_places" = true) (k7 : PySem.W.keepIn K (.ref f_7) = true)
    (a8 : PySem.W.nsIn K mainGlobals "is_number" = some (some (.ref f_8))) (l8 : K.lookup f_8 = some ⟨oc8, od8, .func (PySem.W.fnOf "is_number" "is_number" (defArgs s_is_number) (defBody s_is_number) (defScope s_is_number) .none kV8 dc8 pm8 an8 cd8 ct8), sl8⟩) (c8 : PySem.W.codeIn K cd8 "is_number" = true) (k8 : PySem.W.keepIn K (.ref f_8) = true)
    (a9 : PySem.W.nsIn K mainGlobals "is_place" = some (some (.ref f_9))) (l9 : K.lookup f_9 = some ⟨oc9, od9, .func (PySem.W.fnOf "is_place" "is_place" (defArgs s_is_place) (defBody s_is_place) (defScope s_is_place) .none kV9 dc9 pm9 an9 cd9 ct9), sl9⟩) (c9 : PySem.W.codeIn K cd9 "is_place" = true) (k9 : PySem.W.keepIn K (.ref f_9) = true)
    (a10 : PySem.W.nsIn K mainGlobals "is_way" = some (some (.ref f_10))) (l10 : K.lookup f_10 = some ⟨oc10, od10, .func (PySem.W.fnOf "is_way" "is_way" (defArgs s_is_way) (defBody s_is_way) (defScope s_is_way) .none kV10 dc10 pm10 an10 cd10 ct10), sl10⟩) (c10 : PySem.W.codeIn K cd10 "is_way" = true) (k10 : PySem.W.keepIn K (.ref f_10) = true)
    (a11 : PySem.W.nsIn K mainGlobals "is_world" = some (some (.ref f_11))) (l11 : K.lookup f_11 = some ⟨oc11, od11, .func (PySem.W.fnOf "is_world" "is_world" (defArgs s_is_world) (defBody s_is_world) (defScope s_is_world) .none kV11 dc11 pm11 an11 cd11 ct11), sl11⟩) (c11 : PySem.W.codeIn K cd11 "is_world" = true) (k11 : PySem.W.keepIn K (.ref f_11) = true)
    (a12 : PySem.W.nsIn K mainGlobals "need_world" = some (some (.ref f_12))) (l12 : K.lookup f_12 = some ⟨oc12, od12, .func (PySem.W.fnOf "need_world" "need_world" (defArgs s_need_world) (defBody s_need_world) (defScope s_need_world) .none kV12 dc12 pm12 an12 cd12 ct12), sl12⟩) (c12 : PySem.W.codeIn K cd12 "need_world" = true) (k12 : PySem.W.keepIn K (.ref f_12) = true)
    (a13 : PySem.W.nsIn K mainGlobals "limits" = some (some (.ref f_13))) (l13 : K.lookup f_13 = some ⟨oc13, od13, .func (PySem.W.fnOf "limits" "limits" (defArgs s_limits) (defBody s_limits) (defScope s_limits) .none kV13 dc13 pm13 an13 cd13 ct13), sl13⟩) (c13 : PySem.W.codeIn K cd13 "limits" = true) (k13 : PySem.W.keepIn K (.ref f_13) = true)
    (a14 : PySem.W.nsIn K mainGlobals "ways_liked" = some (some (.ref f_14))) (l14 : K.lookup f_14 = some ⟨oc14, od14, .func (PySem.W.fnOf "ways_liked" "ways_liked" (defArgs s_ways_liked) (defBody s_ways_liked) (defScope s_ways_liked) .none kV14 dc14 pm14 an14 cd14 ct14), sl14⟩) (c14 : PySem.W.codeIn K cd14 "ways_liked" = true) (k14 : PySem.W.keepIn K (.ref f_14) = true)
    (a15 : PySem.W.nsIn K mainGlobals "chosen" = some (some (.ref f_15))) (l15 : K.lookup f_15 = some ⟨oc15, od15, .func (PySem.W.fnOf "chosen" "chosen" (defArgs s_chosen) (defBody s_chosen) (defScope s_chosen) .none kV15 dc15 pm15 an15 cd15 ct15), sl15⟩) (c15 : PySem.W.codeIn K cd15 "chosen" = true) (k15 : PySem.W.keepIn K (.ref f_15) = true)
    (a16 : PySem.W.nsIn K mainGlobals "both_ends" = some (some (.ref f_16))) (l16 : K.lookup f_16 = some ⟨oc16, od16, .func (PySem.W.fnOf "both_ends" "both_ends" (defArgs s_both_ends) (defBody s_both_ends) (defScope s_both_ends) .none kV16 dc16 pm16 an16 cd16 ct16), sl16⟩) (c16 : PySem.W.codeIn K cd16 "both_ends" = true) (k16 : PySem.W.keepIn K (.ref f_16) = true)
    (a17 : PySem.W.nsIn K mainGlobals "refused" = some (some (.ref f_17))) (l17 : K.lookup f_17 = some ⟨oc17, od17, .func (PySem.W.fnOf "refused" "refused" (defArgs s_refused) (defBody s_refused) (defScope s_refused) .none kV17 dc17 pm17 an17 cd17 ct17), sl17⟩) (c17 : PySem.W.codeIn K cd17 "refused" = true) (k17 : PySem.W.keepIn K (.ref f_17) = true)
    (a18 : PySem.W.nsIn K mainGlobals "lowered" = some (some (.ref f_18))) (l18 : K.lookup f_18 = some ⟨oc18, od18, .func (PySem.W.fnOf "lowered" "lowered" (defArgs s_lowered) (defBody s_lowered) (defScope s_lowered) .none kV18 dc18 pm18 an18 cd18 ct18), sl18⟩) (c18 : PySem.W.codeIn K cd18 "lowered" = true) (k18 : PySem.W.keepIn K (.ref f_18) = true)
    (a19 : PySem.W.nsIn K mainGlobals "steps" = some (some (.ref f_19))) (l19 : K.lookup f_19 = some ⟨oc19, od19, .func (PySem.W.fnOf "steps" "steps" (defArgs s_steps) (defBody s_steps) (defScope s_steps) .none kV19 dc19 pm19 an19 cd19 ct19), sl19⟩) (c19 : PySem.W.codeIn K cd19 "steps" = true) (k19 : PySem.W.keepIn K (.ref f_19) = true)
    (a20 : PySem.W.nsIn K mainGlobals "paper" = some (some (.ref f_20))) (l20 : K.lookup f_20 = some ⟨oc20, od20, .func (PySem.W.fnOf "paper" "paper" (defArgs s_paper) (defBody s_paper) (defScope s_paper) .none kV20 dc20 pm20 an20 cd20 ct20), sl20⟩) (c20 : PySem.W.codeIn K cd20 "paper" = true) (k20 : PySem.W.keepIn K (.ref f_20) = true)
    (a21 : PySem.W.nsIn K mainGlobals "capped" = some (some (.ref f_21))) (l21 : K.lookup f_21 = some ⟨oc21, od21, .func (PySem.W.fnOf "capped" "capped" (defArgs s_capped) (defBody s_capped) (defScope s_capped) .none kV21 dc21 pm21 an21 cd21 ct21), sl21⟩) (c21 : PySem.W.codeIn K cd21 "capped" = true) (k21 : PySem.W.keepIn K (.ref f_21) = true)
    (a22 : PySem.W.nsIn K mainGlobals "givers_best" = some (some (.ref f_22))) (l22 : K.lookup f_22 = some ⟨oc22, od22, .func (PySem.W.fnOf "givers_best" "givers_best" (defArgs s_givers_best) (defBody s_givers_best) (defScope s_givers_best) .none kV22 dc22 pm22 an22 cd22 ct22), sl22⟩) (c22 : PySem.W.codeIn K cd22 "givers_best" = true) (k22 : PySem.W.keepIn K (.ref f_22) = true)
    (a23 : PySem.W.nsIn K mainGlobals "turned" = some (some (.ref f_23))) (l23 : K.lookup f_23 = some ⟨oc23, od23, .func (PySem.W.fnOf "turned" "turned" (defArgs s_turned) (defBody s_turned) (defScope s_turned) .none kV23 dc23 pm23 an23 cd23 ct23), sl23⟩) (c23 : PySem.W.codeIn K cd23 "turned" = true) (k23 : PySem.W.keepIn K (.ref f_23) = true)
    (a24 : PySem.W.nsIn K mainGlobals "used" = some (some (.ref f_24))) (l24 : K.lookup f_24 = some ⟨oc24, od24, .func (PySem.W.fnOf "used" "used" (defArgs s_used) (defBody s_used) (defScope s_used) .none kV24 dc24 pm24 an24 cd24 ct24), sl24⟩) (c24 : PySem.W.codeIn K cd24 "used" = true) (k24 : PySem.W.keepIn K (.ref f_24) = true)
    (a25 : PySem.W.nsIn K mainGlobals "is_plan" = some (some (.ref f_25))) (l25 : K.lookup f_25 = some ⟨oc25, od25, .func (PySem.W.fnOf "is_plan" "is_plan" (defArgs s_is_plan) (defBody s_is_plan) (defScope s_is_plan) .none kV25 dc25 pm25 an25 cd25 ct25), sl25⟩) (c25 : PySem.W.codeIn K cd25 "is_plan" = true) (k25 : PySem.W.keepIn K (.ref f_25) = true)
    (a26 : PySem.W.nsIn K mainGlobals "need_plan" = some (some (.ref f_26))) (l26 : K.lookup f_26 = some ⟨oc26, od26, .func (PySem.W.fnOf "need_plan" "need_plan" (defArgs s_need_plan) (defBody s_need_plan) (defScope s_need_plan) .none kV26 dc26 pm26 an26 cd26 ct26), sl26⟩) (c26 : PySem.W.codeIn K cd26 "need_plan" = true) (k26 : PySem.W.keepIn K (.ref f_26) = true)
    (a27 : PySem.W.nsIn K mainGlobals "turned_plan" = some (some (.ref f_27))) (l27 : K.lookup f_27 = some ⟨oc27, od27, .func (PySem.W.fnOf "turned_plan" "turned_plan" (defArgs s_turned_plan) (defBody s_turned_plan) (defScope s_turned_plan) .none kV27 dc27 pm27 an27 cd27 ct27), sl27⟩) (c27 : PySem.W.codeIn K cd27 "turned_plan" = true) (k27 : PySem.W.keepIn K (.ref f_27) = true)
    (a28 : PySem.W.nsIn K mainGlobals "takers_best" = some (some (.ref f_28))) (l28 : K.lookup f_28 = some ⟨oc28, od28, .func (PySem.W.fnOf "takers_best" "takers_best" (defArgs s_takers_best) (defBody s_takers_best) (defScope s_takers_best) .none kV28 dc28 pm28 an28 cd28 ct28), sl28⟩) (c28 : PySem.W.codeIn K cd28 "takers_best" = true) (k28 : PySem.W.keepIn K (.ref f_28) = true)
    (a29 : PySem.W.nsIn K mainGlobals "is_within" = some (some (.ref f_29))) (l29 : K.lookup f_29 = some ⟨oc29, od29, .func (PySem.W.fnOf "is_within" "is_within" (defArgs s_is_within) (defBody s_is_within) (defScope s_is_within) .none kV29 dc29 pm29 an29 cd29 ct29), sl29⟩) (c29 : PySem.W.codeIn K cd29 "is_within" = true) (k29 : PySem.W.keepIn K (.ref f_29) = true)
    (a30 : PySem.W.nsIn K mainGlobals "is_row" = some (some (.ref f_30))) (l30 : K.lookup f_30 = some ⟨oc30, od30, .func (PySem.W.fnOf "is_row" "is_row" (defArgs s_is_row) (defBody s_is_row) (defScope s_is_row) .none kV30 dc30 pm30 an30 cd30 ct30), sl30⟩) (c30 : PySem.W.codeIn K cd30 "is_row" = true) (k30 : PySem.W.keepIn K (.ref f_30) = true)
    (a31 : PySem.W.nsIn K mainGlobals "holds" = some (some (.ref f_31))) (l31 : K.lookup f_31 = some ⟨oc31, od31, .func (PySem.W.fnOf "holds" "holds" (defArgs s_holds) (defBody s_holds) (defScope s_holds) .none kV31 dc31 pm31 an31 cd31 ct31), sl31⟩) (c31 : PySem.W.codeIn K cd31 "holds" = true) (k31 : PySem.W.keepIn K (.ref f_31) = true)
    (a32 : PySem.W.nsIn K mainGlobals "caps_of" = some (some (.ref f_32))) (l32 : K.lookup f_32 = some ⟨oc32, od32, .func (PySem.W.fnOf "caps_of" "caps_of" (defArgs s_caps_of) (defBody s_caps_of) (defScope s_caps_of) .none kV32 dc32 pm32 an32 cd32 ct32), sl32⟩) (c32 : PySem.W.codeIn K cd32 "caps_of" = true) (k32 : PySem.W.keepIn K (.ref f_32) = true)
    (a33 : PySem.W.nsIn K mainGlobals "wants" = some (some (.ref f_33))) (l33 : K.lookup f_33 = some ⟨oc33, od33, .func (PySem.W.fnOf "wants" "wants" (defArgs s_wants) (defBody s_wants) (defScope s_wants) .none kV33 dc33 pm33 an33 cd33 ct33), sl33⟩) (c33 : PySem.W.codeIn K cd33 "wants" = true) (k33 : PySem.W.keepIn K (.ref f_33) = true)
    (a34 : PySem.W.nsIn K mainGlobals "would_leave" = some (some (.ref f_34))) (l34 : K.lookup f_34 = some ⟨oc34, od34, .func (PySem.W.fnOf "would_leave" "would_leave" (defArgs s_would_leave) (defBody s_would_leave) (defScope s_would_leave) .none kV34 dc34 pm34 an34 cd34 ct34), sl34⟩) (c34 : PySem.W.codeIn K cd34 "would_leave" = true) (k34 : PySem.W.keepIn K (.ref f_34) = true)
    (a35 : PySem.W.nsIn K mainGlobals "leaving" = some (some (.ref f_35))) (l35 : K.lookup f_35 = some ⟨oc35, od35, .func (PySem.W.fnOf "leaving" "leaving" (defArgs s_leaving) (defBody s_leaving) (defScope s_leaving) .none kV35 dc35 pm35 an35 cd35 ct35), sl35⟩) (c35 : PySem.W.codeIn K cd35 "leaving" = true) (k35 : PySem.W.keepIn K (.ref f_35) = true)
    (a36 : PySem.W.nsIn K mainGlobals "rests" = some (some (.ref f_36))) (l36 : K.lookup f_36 = some ⟨oc36, od36, .func (PySem.W.fnOf "rests" "rests" (defArgs s_rests) (defBody s_rests) (defScope s_rests) .none kV36 dc36 pm36 an36 cd36 ct36), sl36⟩) (c36 : PySem.W.codeIn K cd36 "rests" = true) (k36 : PySem.W.keepIn K (.ref f_36) = true)
    (a37 : PySem.W.nsIn K mainGlobals "shows" = some (some (.ref f_37))) (l37 : K.lookup f_37 = some ⟨oc37, od37, .func (PySem.W.fnOf "shows" "shows" (defArgs s_shows) (defBody s_shows) (defScope s_shows) .none kV37 dc37 pm37 an37 cd37 ct37), sl37⟩) (c37 : PySem.W.codeIn K cd37 "shows" = true) (k37 : PySem.W.keepIn K (.ref f_37) = true)
    (a38 : PySem.W.nsIn K mainGlobals "law" = some (some (.ref f_38))) (l38 : K.lookup f_38 = some ⟨oc38, od38, .func (PySem.W.fnOf "law" "law" (defArgs s_law) (defBody s_law) (defScope s_law) .none kV38 dc38 pm38 an38 cd38 ct38), sl38⟩) (c38 : PySem.W.codeIn K cd38 "law" = true) (k38 : PySem.W.keepIn K (.ref f_38) = true)
    {t_MOST_PLACES t_MOST_AMOUNT : Tok} (g_MOST_PLACES : PySem.W.nsIn K mainGlobals "MOST_PLACES" = some (some (.int 4 t_MOST_PLACES))) (g_MOST_AMOUNT : PySem.W.nsIn K mainGlobals "MOST_AMOUNT" = some (some (.int 9 t_MOST_AMOUNT)))
    (xg_NoWorld : PySem.W.nsIn K mainGlobals "NoWorld" = some (some (.ref C_NoWorld))) (xx_NoWorld : PySem.W.excIn K C_NoWorld [.type "ValueError", .type "Exception", .type "BaseException", .type "object"] "ValueError.__new__" = true) (xk_NoWorld : PySem.W.keepIn K (.ref C_NoWorld) = true) (xb_NoWorld : PySem.W.subIn K (.ref C_NoWorld) (.type "BaseException") = some true) (xt_NoWorld : PySem.W.typeIn K (.ref C_NoWorld) = some (.type "type"))
    (xg_NoPlan : PySem.W.nsIn K mainGlobals "NoPlan" = some (some (.ref C_NoPlan))) (xx_NoPlan : PySem.W.excIn K C_NoPlan [.type "ValueError", .type "Exception", .type "BaseException", .type "object"] "ValueError.__new__" = true) (xk_NoPlan : PySem.W.keepIn K (.ref C_NoPlan) = true) (xb_NoPlan : PySem.W.subIn K (.ref C_NoPlan) (.type "BaseException") = some true) (xt_NoPlan : PySem.W.typeIn K (.ref C_NoPlan) = some (.type "type"))
    (z0 : PySem.W.nsIn K mainGlobals "len" = some none) (z1 : PySem.W.nsIn K mainGlobals "range" = some none) (z2 : PySem.W.nsIn K mainGlobals "tuple" = some none) (z3 : PySem.W.nsIn K mainGlobals "list" = some none) (z4 : PySem.W.nsIn K mainGlobals "isinstance" = some none) (z5 : PySem.W.nsIn K mainGlobals "int" = some none) (z6 : PySem.W.nsIn K mainGlobals "bool" = some none) (z7 : PySem.W.nsIn K mainGlobals "str" = some none) (z8 : PySem.W.nsIn K mainGlobals "sum" = some none) (z9 : PySem.W.nsIn K mainGlobals "any" = some none) (z10 : PySem.W.nsIn K mainGlobals "all" = some none) (z11 : PySem.W.nsIn K mainGlobals "sorted" = some none) (z12 : PySem.W.nsIn K mainGlobals "set" = some none) (z13 : PySem.W.nsIn K mainGlobals "min" = some none) (z14 : PySem.W.nsIn K mainGlobals "max" = some none) (z15 : PySem.W.nsIn K mainGlobals "abs" = some none) (z16 : PySem.W.nsIn K mainGlobals "zip" = some none) (z17 : PySem.W.nsIn K mainGlobals "enumerate" = some none) (z18 : PySem.W.nsIn K mainGlobals "dict" = some none) :
    ∃ fd : FuncData, (∀ (s : Shared) (v : Value), BindsTo s fd ⟨[v], []⟩ [("_law_script", v)]) ∧ ∀ base : Heap, K.In base → base.Ns mainGlobals mg → FnOk l.prog w K mg base (L2.CX l.prog w) 9 fa fd ["_law_script"] (spLaw K) := by
  have e := hfa.symm.trans (PySem.W.mg_of X Gn a38)
  cases e
  letI : KS := ksOf K
  have F0 := fun_mk (st := s__law_cell) l0 c0 k0
  have F1 := fun_mk (st := s__law_drawn) l1 c1 k1
  have F2 := fun_mk (st := s__law_orders) l2 c2 k2
  have F3 := fun_mk (st := s__law_world) l3 c3 k3
  have F4 := fun_mk (st := s__law_used) l4 c4 k4
  have F5 := fun_mk (st := s__law_fits) l5 c5 k5
  have F6 := fun_mk (st := s__law_plan) l6 c6 k6
  have F7 := fun_mk (st := s_are_places) l7 c7 k7
  have F8 := fun_mk (st := s_is_number) l8 c8 k8
  have F9 := fun_mk (st := s_is_place) l9 c9 k9
  have F10 := fun_mk (st := s_is_way) l10 c10 k10
  have F11 := fun_mk (st := s_is_world) l11 c11 k11
  have F12 := fun_mk (st := s_need_world) l12 c12 k12
  have F13 := fun_mk (st := s_limits) l13 c13 k13
  have F14 := fun_mk (st := s_ways_liked) l14 c14 k14
  have F15 := fun_mk (st := s_chosen) l15 c15 k15
  have F16 := fun_mk (st := s_both_ends) l16 c16 k16
  have F17 := fun_mk (st := s_refused) l17 c17 k17
  have F18 := fun_mk (st := s_lowered) l18 c18 k18
  have F19 := fun_mk (st := s_steps) l19 c19 k19
  have F20 := fun_mk (st := s_paper) l20 c20 k20
  have F21 := fun_mk (st := s_capped) l21 c21 k21
  have F22 := fun_mk (st := s_givers_best) l22 c22 k22
  have F23 := fun_mk (st := s_turned) l23 c23 k23
  have F24 := fun_mk (st := s_used) l24 c24 k24
  have F25 := fun_mk (st := s_is_plan) l25 c25 k25
  have F26 := fun_mk (st := s_need_plan) l26 c26 k26
  have F27 := fun_mk (st := s_turned_plan) l27 c27 k27
  have F28 := fun_mk (st := s_takers_best) l28 c28 k28
  have F29 := fun_mk (st := s_is_within) l29 c29 k29
  have F30 := fun_mk (st := s_is_row) l30 c30 k30
  have F31 := fun_mk (st := s_holds) l31 c31 k31
  have F32 := fun_mk (st := s_caps_of) l32 c32 k32
  have F33 := fun_mk (st := s_wants) l33 c33 k33
  have F34 := fun_mk (st := s_would_leave) l34 c34 k34
  have F35 := fun_mk (st := s_leaving) l35 c35 k35
  have F36 := fun_mk (st := s_rests) l36 c36 k36
  have F37 := fun_mk (st := s_shows) l37 c37 k37
  have F38 := fun_mk (st := s_law) l38 c38 k38
  refine ⟨PySem.W.fnOf "law" "law" (defArgs s_law) (defBody s_law) (defScope s_law) .none kV38 dc38 pm38 an38 cd38 ct38, fun s v => ?_, fun base _ _ => ?_⟩
  · exact .of_eq rfl
  · let G : Gx := ⟨l.prog, w, K, mg, base, fun c => match c with | 0 => C_NoWorld | 1 => C_NoPlan | _ => 0⟩
    have blt : ∀ x ∈ bnames, G.mg (Str.ofString x) = none := allS_of (l := bnames) ⟨PySem.W.mg_none_of X Gn z0, PySem.W.mg_none_of X Gn z1, PySem.W.mg_none_of X Gn z2, PySem.W.mg_none_of X Gn z3, PySem.W.mg_none_of X Gn z4, PySem.W.mg_none_of X Gn z5, PySem.W.mg_none_of X Gn z6, PySem.W.mg_none_of X Gn z7, PySem.W.mg_none_of X Gn z8, PySem.W.mg_none_of X Gn z9, PySem.W.mg_none_of X Gn z10, PySem.W.mg_none_of X Gn z11, PySem.W.mg_none_of X Gn z12, PySem.W.mg_none_of X Gn z13, PySem.W.mg_none_of X Gn z14, PySem.W.mg_none_of X Gn z15, PySem.W.mg_none_of X Gn z16, PySem.W.mg_none_of X Gn z17, PySem.W.mg_none_of X Gn z18, trivial⟩
    have c_MOST_PLACES : ConstAt G "MOST_PLACES" (.int 4) := constAt_int (PySem.W.mg_of X Gn g_MOST_PLACES)
    have c_MOST_AMOUNT : ConstAt G "MOST_AMOUNT" (.int 9) := constAt_int (PySem.W.mg_of X Gn g_MOST_AMOUNT)
    have e_NoWorld : ExcOk G "NoWorld" 0 := ⟨_, _, _, _, PySem.F.excBase_ValueError, xx_NoWorld, PySem.W.mg_of X Gn xg_NoWorld, xk_NoWorld, xb_NoWorld, xt_NoWorld⟩
    have e_NoPlan : ExcOk G "NoPlan" 1 := ⟨_, _, _, _, PySem.F.excBase_ValueError, xx_NoPlan, PySem.W.mg_of X Gn xg_NoPlan, xk_NoPlan, xb_NoPlan, xt_NoPlan⟩
    have h__law_cell : CallOk G 1 "_law_cell" f__law_cell := ⟨_, _, ["_law_script", "_law_k"], PySem.W.mg_of X Gn a0, k0, F0.binds (ps := ["_law_script", "_law_k"]) fun _ _ _ _ _ _ us hl => match us, hl with | [_, _], _ => rfl, fn_cell (k := 0) F0 sc__law_cell rfl m__law_cell blt fun _ _ h => h⟩
    have h__law_drawn : CallOk G 2 "_law_drawn" f__law_drawn := ⟨_, _, ["_law_script", "_law_k", "_law_many"], PySem.W.mg_of X Gn a1, k1, F1.binds (ps := ["_law_script", "_law_k", "_law_many"]) fun _ _ _ _ _ _ us hl => match us, hl with | [_, _, _], _ => rfl, ok__law_drawn (k := 1) F1 blt (h__law_cell.mono (by decide))⟩
    have h__law_orders : CallOk G 3 "_law_orders" f__law_orders := ⟨_, _, ["_law_script", "_law_at", "_law_rows"], PySem.W.mg_of X Gn a2, k2, F2.binds (ps := ["_law_script", "_law_at", "_law_rows"]) fun _ _ _ _ _ _ us hl => match us, hl with | [_, _, _], _ => rfl, ok__law_orders (k := 2) F2 blt (h__law_drawn.mono (by decide))⟩
    have h__law_world : CallOk G 4 "_law_world" f__law_world := ⟨_, _, ["_law_script", "_law_at", "_law_most"], PySem.W.mg_of X Gn a3, k3, F3.binds (ps := ["_law_script", "_law_at", "_law_most"]) fun _ _ _ _ _ _ us hl => match us, hl with | [_, _, _], _ => rfl, ok__law_world (k := 3) F3 blt (h__law_drawn.mono (by decide)) (h__law_orders.mono (by decide))⟩
    have h__law_used : CallOk G 1 "_law_used" f__law_used := ⟨_, _, ["_law_world_here", "_law_plan_here", "_law_side", "_law_place"], PySem.W.mg_of X Gn a4, k4, F4.binds (ps := ["_law_world_here", "_law_plan_here", "_law_side", "_law_place"]) fun _ _ _ _ _ _ us hl => match us, hl with | [_, _, _, _], _ => rfl, ok__law_used (k := 0) F4 blt ⟩
    have h__law_fits : CallOk G 2 "_law_fits" f__law_fits := ⟨_, _, ["_law_world_here", "_law_plan_here"], PySem.W.mg_of X Gn a5, k5, F5.binds (ps := ["_law_world_here", "_law_plan_here"]) fun _ _ _ _ _ _ us hl => match us, hl with | [_, _], _ => rfl, ok__law_fits (k := 1) F5 blt (h__law_used.mono (by decide))⟩
    have h__law_plan : CallOk G 3 "_law_plan" f__law_plan := ⟨_, _, ["_law_script", "_law_at", "_law_world_here"], PySem.W.mg_of X Gn a6, k6, F6.binds (ps := ["_law_script", "_law_at", "_law_world_here"]) fun _ _ _ _ _ _ us hl => match us, hl with | [_, _, _], _ => rfl, ok__law_plan (k := 2) F6 blt (h__law_drawn.mono (by decide)) (h__law_fits.mono (by decide))⟩
    have h_are_places : CallOk G 1 "are_places" f_are_places := ⟨_, _, ["thing"], PySem.W.mg_of X Gn a7, k7, F7.binds (ps := ["thing"]) fun _ _ _ _ _ _ us hl => match us, hl with | [_], _ => rfl, ok_are_places (k := 0) F7 blt c_MOST_PLACES⟩
    have h_is_number : CallOk G 1 "is_number" f_is_number := ⟨_, _, ["thing", "low", "high"], PySem.W.mg_of X Gn a8, k8, F8.binds (ps := ["thing", "low", "high"]) fun _ _ _ _ _ _ us hl => match us, hl with | [_, _, _], _ => rfl, ok_is_number (k := 0) F8 blt ⟩
    have h_is_place : CallOk G 2 "is_place" f_is_place := ⟨_, _, ["thing", "many"], PySem.W.mg_of X Gn a9, k9, F9.binds (ps := ["thing", "many"]) fun _ _ _ _ _ _ us hl => match us, hl with | [_, _], _ => rfl, ok_is_place (k := 1) F9 blt (h_is_number.mono (by decide)) c_MOST_AMOUNT⟩
    have h_is_way : CallOk G 2 "is_way" f_is_way := ⟨_, _, ["thing", "givers", "takers"], PySem.W.mg_of X Gn a10, k10, F10.binds (ps := ["thing", "givers", "takers"]) fun _ _ _ _ _ _ us hl => match us, hl with | [_, _, _], _ => rfl, ok_is_way (k := 1) F10 blt (h_is_number.mono (by decide)) c_MOST_AMOUNT⟩
    have h_is_world : CallOk G 3 "is_world" f_is_world := ⟨_, _, ["thing"], PySem.W.mg_of X Gn a11, k11, F11.binds (ps := ["thing"]) fun _ _ _ _ _ _ us hl => match us, hl with | [_], _ => rfl, ok_is_world (k := 2) F11 blt (h_are_places.mono (by decide)) (h_is_place.mono (by decide)) (h_is_way.mono (by decide))⟩
    have h_need_world : CallOk G 4 "need_world" f_need_world := ⟨_, _, ["world"], PySem.W.mg_of X Gn a12, k12, F12.binds (ps := ["world"]) fun _ _ _ _ _ _ us hl => match us, hl with | [_], _ => rfl, ok_need_world (k := 3) F12 blt (h_is_world.mono (by decide)) e_NoWorld⟩
    have h_limits : CallOk G 1 "limits" f_limits := ⟨_, _, ["world"], PySem.W.mg_of X Gn a13, k13, F13.binds (ps := ["world"]) fun _ _ _ _ _ _ us hl => match us, hl with | [_], _ => rfl, ok_limits (k := 0) F13 blt ⟩
    have h_ways_liked : CallOk G 1 "ways_liked" f_ways_liked := ⟨_, _, ["world", "side", "place"], PySem.W.mg_of X Gn a14, k14, F14.binds (ps := ["world", "side", "place"]) fun _ _ _ _ _ _ us hl => match us, hl with | [_, _, _], _ => rfl, ok_ways_liked (k := 0) F14 blt ⟩
    have h_chosen : CallOk G 2 "chosen" f_chosen := ⟨_, _, ["world", "side", "place", "offers"], PySem.W.mg_of X Gn a15, k15, F15.binds (ps := ["world", "side", "place", "offers"]) fun _ _ _ _ _ _ us hl => match us, hl with | [_, _, _, _], _ => rfl, ok_chosen (k := 1) F15 blt (h_ways_liked.mono (by decide))⟩
    have h_both_ends : CallOk G 3 "both_ends" f_both_ends := ⟨_, _, ["world", "side", "offers"], PySem.W.mg_of X Gn a16, k16, F16.binds (ps := ["world", "side", "offers"]) fun _ _ _ _ _ _ us hl => match us, hl with | [_, _, _], _ => rfl, ok_both_ends (k := 2) F16 blt (h_chosen.mono (by decide))⟩
    have h_refused : CallOk G 4 "refused" f_refused := ⟨_, _, ["world", "caps"], PySem.W.mg_of X Gn a17, k17, F17.binds (ps := ["world", "caps"]) fun _ _ _ _ _ _ us hl => match us, hl with | [_, _], _ => rfl, ok_refused (k := 3) F17 blt (h_both_ends.mono (by decide))⟩
    have h_lowered : CallOk G 1 "lowered" f_lowered := ⟨_, _, ["caps", "way", "cap"], PySem.W.mg_of X Gn a18, k18, F18.binds (ps := ["caps", "way", "cap"]) fun _ _ _ _ _ _ us hl => match us, hl with | [_, _, _], _ => rfl, ok_lowered (k := 0) F18 blt ⟩
    have h_steps : CallOk G 5 "steps" f_steps := ⟨_, _, ["world"], PySem.W.mg_of X Gn a19, k19, F19.binds (ps := ["world"]) fun _ _ _ _ _ _ us hl => match us, hl with | [_], _ => rfl, ok_steps (k := 4) F19 blt (h_limits.mono (by decide)) (h_refused.mono (by decide)) (h_lowered.mono (by decide))⟩
    have h_paper : CallOk G 6 "paper" f_paper := ⟨_, _, ["world"], PySem.W.mg_of X Gn a20, k20, F20.binds (ps := ["world"]) fun _ _ _ _ _ _ us hl => match us, hl with | [_], _ => rfl, ok_paper (k := 5) F20 blt (h_need_world.mono (by decide)) (h_steps.mono (by decide))⟩
    have h_capped : CallOk G 2 "capped" f_capped := ⟨_, _, ["world", "rows"], PySem.W.mg_of X Gn a21, k21, F21.binds (ps := ["world", "rows"]) fun _ _ _ _ _ _ us hl => match us, hl with | [_, _], _ => rfl, ok_capped (k := 1) F21 blt (h_limits.mono (by decide)) (h_lowered.mono (by decide))⟩
    have h_givers_best : CallOk G 6 "givers_best" f_givers_best := ⟨_, _, ["world"], PySem.W.mg_of X Gn a22, k22, F22.binds (ps := ["world"]) fun _ _ _ _ _ _ us hl => match us, hl with | [_], _ => rfl, ok_givers_best (k := 5) F22 blt (h_need_world.mono (by decide)) (h_both_ends.mono (by decide)) (h_capped.mono (by decide)) (h_steps.mono (by decide))⟩
    have h_turned : CallOk G 5 "turned" f_turned := ⟨_, _, ["world"], PySem.W.mg_of X Gn a23, k23, F23.binds (ps := ["world"]) fun _ _ _ _ _ _ us hl => match us, hl with | [_], _ => rfl, ok_turned (k := 4) F23 blt (h_need_world.mono (by decide))⟩
    have h_used : CallOk G 1 "used" f_used := ⟨_, _, ["world", "plan", "side", "place"], PySem.W.mg_of X Gn a24, k24, F24.binds (ps := ["world", "plan", "side", "place"]) fun _ _ _ _ _ _ us hl => match us, hl with | [_, _, _, _], _ => rfl, ok_used (k := 0) F24 blt ⟩
    have h_is_plan : CallOk G 2 "is_plan" f_is_plan := ⟨_, _, ["world", "thing"], PySem.W.mg_of X Gn a25, k25, F25.binds (ps := ["world", "thing"]) fun _ _ _ _ _ _ us hl => match us, hl with | [_, _], _ => rfl, ok_is_plan (k := 1) F25 blt (h_is_number.mono (by decide)) (h_used.mono (by decide))⟩
    have h_need_plan : CallOk G 5 "need_plan" f_need_plan := ⟨_, _, ["world", "plan"], PySem.W.mg_of X Gn a26, k26, F26.binds (ps := ["world", "plan"]) fun _ _ _ _ _ _ us hl => match us, hl with | [_, _], _ => rfl, ok_need_plan (k := 4) F26 blt (h_need_world.mono (by decide)) (h_is_plan.mono (by decide)) e_NoPlan⟩
    have h_turned_plan : CallOk G 6 "turned_plan" f_turned_plan := ⟨_, _, ["world", "plan"], PySem.W.mg_of X Gn a27, k27, F27.binds (ps := ["world", "plan"]) fun _ _ _ _ _ _ us hl => match us, hl with | [_, _], _ => rfl, ok_turned_plan (k := 5) F27 blt (h_need_plan.mono (by decide))⟩
    have h_takers_best : CallOk G 7 "takers_best" f_takers_best := ⟨_, _, ["world"], PySem.W.mg_of X Gn a28, k28, F28.binds (ps := ["world"]) fun _ _ _ _ _ _ us hl => match us, hl with | [_], _ => rfl, ok_takers_best (k := 6) F28 blt (h_turned.mono (by decide)) (h_turned_plan.mono (by decide)) (h_givers_best.mono (by decide))⟩
    have h_is_within : CallOk G 5 "is_within" f_is_within := ⟨_, _, ["world", "plan", "caps"], PySem.W.mg_of X Gn a29, k29, F29.binds (ps := ["world", "plan", "caps"]) fun _ _ _ _ _ _ us hl => match us, hl with | [_, _, _], _ => rfl, ok_is_within (k := 4) F29 blt (h_need_world.mono (by decide)) (h_is_plan.mono (by decide))⟩
    have h_is_row : CallOk G 5 "is_row" f_is_row := ⟨_, _, ["world", "thing"], PySem.W.mg_of X Gn a30, k30, F30.binds (ps := ["world", "thing"]) fun _ _ _ _ _ _ us hl => match us, hl with | [_, _], _ => rfl, ok_is_row (k := 4) F30 blt (h_need_world.mono (by decide)) (h_is_number.mono (by decide))⟩
    have h_holds : CallOk G 6 "holds" f_holds := ⟨_, _, ["world", "rows"], PySem.W.mg_of X Gn a31, k31, F31.binds (ps := ["world", "rows"]) fun _ _ _ _ _ _ us hl => match us, hl with | [_, _], _ => rfl, ok_holds (k := 5) F31 blt (h_need_world.mono (by decide)) (h_limits.mono (by decide)) (h_is_row.mono (by decide)) (h_both_ends.mono (by decide)) (h_lowered.mono (by decide))⟩
    have h_caps_of : CallOk G 7 "caps_of" f_caps_of := ⟨_, _, ["world", "rows"], PySem.W.mg_of X Gn a32, k32, F32.binds (ps := ["world", "rows"]) fun _ _ _ _ _ _ us hl => match us, hl with | [_, _], _ => rfl, ok_caps_of (k := 6) F32 blt (h_holds.mono (by decide)) (h_capped.mono (by decide))⟩
    have h_wants : CallOk G 2 "wants" f_wants := ⟨_, _, ["world", "plan", "side", "place", "way"], PySem.W.mg_of X Gn a33, k33, F33.binds (ps := ["world", "plan", "side", "place", "way"]) fun _ _ _ _ _ _ us hl => match us, hl with | [_, _, _, _, _], _ => rfl, ok_wants (k := 1) F33 blt (h_used.mono (by decide)) (h_ways_liked.mono (by decide))⟩
    have h_would_leave : CallOk G 3 "would_leave" f_would_leave := ⟨_, _, ["world", "plan", "way"], PySem.W.mg_of X Gn a34, k34, F34.binds (ps := ["world", "plan", "way"]) fun _ _ _ _ _ _ us hl => match us, hl with | [_, _, _], _ => rfl, ok_would_leave (k := 2) F34 blt (h_wants.mono (by decide))⟩
    have h_leaving : CallOk G 6 "leaving" f_leaving := ⟨_, _, ["world", "plan"], PySem.W.mg_of X Gn a35, k35, F35.binds (ps := ["world", "plan"]) fun _ _ _ _ _ _ us hl => match us, hl with | [_, _], _ => rfl, ok_leaving (k := 5) F35 blt (h_need_plan.mono (by decide)) (h_would_leave.mono (by decide))⟩
    have h_rests : CallOk G 7 "rests" f_rests := ⟨_, _, ["world", "plan"], PySem.W.mg_of X Gn a36, k36, F36.binds (ps := ["world", "plan"]) fun _ _ _ _ _ _ us hl => match us, hl with | [_, _], _ => rfl, ok_rests (k := 6) F36 blt (h_leaving.mono (by decide))⟩
    have h_shows : CallOk G 8 "shows" f_shows := ⟨_, _, ["world", "plan", "rows"], PySem.W.mg_of X Gn a37, k37, F37.binds (ps := ["world", "plan", "rows"]) fun _ _ _ _ _ _ us hl => match us, hl with | [_, _, _], _ => rfl, ok_shows (k := 7) F37 blt (h_need_plan.mono (by decide)) (h_holds.mono (by decide)) (h_rests.mono (by decide)) (h_both_ends.mono (by decide)) (h_capped.mono (by decide))⟩
    have hL := ok_law (G := G) (k := 8) F38 blt (h__law_world.mono (by decide)) (h__law_plan.mono (by decide)) (h_paper.mono (by decide)) (h_givers_best.mono (by decide)) (h_takers_best.mono (by decide)) (h_steps.mono (by decide)) (h_is_within.mono (by decide)) (h_limits.mono (by decide)) (h_caps_of.mono (by decide)) (h_capped.mono (by decide)) (h_refused.mono (by decide)) (h_shows.mono (by decide)) (h_lowered.mono (by decide)) (h_holds.mono (by decide)) (h_rests.mono (by decide))
    exact FnOk.imp hL (spLaw_imp hlaw)
end Lw
open PySem PySem.W PyProof.Rows
set_option maxHeartbeats 0 in
theorem PySem.Challenge.cw_stillflow_k62_whole_within_holds : PySem.Challenge.rw_stillflow_k62_whole_within.Holds := by
  w_on; o_law; k_head; (case hw => w_witness2)
  k_fill
  refine L2.walk_of (l := PySem.Challenge.rw_stillflow_k62_whole_within) (n := 63) (k := 9) (x := "_law_script") (CX := fun w => L2.CX PySem.Challenge.rw_stillflow_k62_whole_within.prog w) (sp := fun w => SF.spLaw _) rfl (by decide) rfl ⟨rfl, by decide, by decide⟩ (fun w h Y => PySem.W.kIn_of Y) ?F (fun _ _ a ns hl hO hS => ⟨a, ns, rfl, hS, hl, hO, fun _ => rfl⟩) (fun _ _ _ _ _ h => SF.hCX_law h)
  case F =>
    intro w mg fa h KX G hmg
    refine' Lw.all_mk Lw.law_true KX G hmg ?a0 ?l0 ?c0 ?k0 ?a1 ?l1 ?c1 ?k1 ?a2 ?l2 ?c2 ?k2 ?a3 ?l3 ?c3 ?k3 ?a4 ?l4 ?c4 ?k4 ?a5 ?l5 ?c5 ?k5 ?a6 ?l6 ?c6 ?k6 ?a7 ?l7 ?c7 ?k7 ?a8 ?l8 ?c8 ?k8 ?a9 ?l9 ?c9 ?k9 ?a10 ?l10 ?c10 ?k10 ?a11 ?l11 ?c11 ?k11 ?a12 ?l12 ?c12 ?k12 ?a13 ?l13 ?c13 ?k13 ?a14 ?l14 ?c14 ?k14 ?a15 ?l15 ?c15 ?k15 ?a16 ?l16 ?c16 ?k16 ?a17 ?l17 ?c17 ?k17 ?a18 ?l18 ?c18 ?k18 ?a19 ?l19 ?c19 ?k19 ?a20 ?l20 ?c20 ?k20 ?a21 ?l21 ?c21 ?k21 ?a22 ?l22 ?c22 ?k22 ?a23 ?l23 ?c23 ?k23 ?a24 ?l24 ?c24 ?k24 ?a25 ?l25 ?c25 ?k25 ?a26 ?l26 ?c26 ?k26 ?a27 ?l27 ?c27 ?k27 ?a28 ?l28 ?c28 ?k28 ?a29 ?l29 ?c29 ?k29 ?a30 ?l30 ?c30 ?k30 ?a31 ?l31 ?c31 ?k31 ?a32 ?l32 ?c32 ?k32 ?a33 ?l33 ?c33 ?k33 ?a34 ?l34 ?c34 ?k34 ?a35 ?l35 ?c35 ?k35 ?a36 ?l36 ?c36 ?k36 ?a37 ?l37 ?c37 ?k37 ?a38 ?l38 ?c38 ?k38 ?g_MOST_PLACES ?g_MOST_AMOUNT ?xg_NoWorld ?xx_NoWorld ?xk_NoWorld ?xb_NoWorld ?xt_NoWorld ?xg_NoPlan ?xx_NoPlan ?xk_NoPlan ?xb_NoPlan ?xt_NoPlan ?z0 ?z1 ?z2 ?z3 ?z4 ?z5 ?z6 ?z7 ?z8 ?z9 ?z10 ?z11 ?z12 ?z13 ?z14 ?z15 ?z16 ?z17 ?z18
    (case a0 => k_is); (case l0 => k_is); (case c0 => k_is); (case k0 => k_is); (case a1 => k_is); (case l1 => k_is); (case c1 => k_is); (case k1 => k_is); (case a2 => k_is); (case l2 => k_is); (case c2 => k_is); (case k2 => k_is); (case a3 => k_is); (case l3 => k_is); (case c3 => k_is); (case k3 => k_is); (case a4 => k_is); (case l4 => k_is); (case c4 => k_is); (case k4 => k_is); (case a5 => k_is); (case l5 => k_is); (case c5 => k_is); (case k5 => k_is); (case a6 => k_is); (case l6 => k_is); (case c6 => k_is); (case k6 => k_is); (case a7 => k_is); (case l7 => k_is); (case c7 => k_is); (case k7 => k_is); (case a8 => k_is); (case l8 => k_is); (case c8 => k_is); (case k8 => k_is); (case a9 => k_is); (case l9 => k_is); (case c9 => k_is); (case k9 => k_is); (case a10 => k_is); (case l10 => k_is); (case c10 => k_is); (case k10 => k_is); (case a11 => k_is); (case l11 => k_is); (case c11 => k_is); (case k11 => k_is); (case a12 => k_is); (case l12 => k_is); (case c12 => k_is); (case k12 => k_is); (case a13 => k_is); (case l13 => k_is); (case c13 => k_is); (case k13 => k_is); (case a14 => k_is); (case l14 => k_is); (case c14 => k_is); (case k14 => k_is); (case a15 => k_is); (case l15 => k_is); (case c15 => k_is); (case k15 => k_is); (case a16 => k_is); (case l16 => k_is); (case c16 => k_is); (case k16 => k_is); (case a17 => k_is); (case l17 => k_is); (case c17 => k_is); (case k17 => k_is); (case a18 => k_is); (case l18 => k_is); (case c18 => k_is); (case k18 => k_is); (case a19 => k_is); (case l19 => k_is); (case c19 => k_is); (case k19 => k_is); (case a20 => k_is); (case l20 => k_is); (case c20 => k_is); (case k20 => k_is); (case a21 => k_is); (case l21 => k_is); (case c21 => k_is); (case k21 => k_is); (case a22 => k_is); (case l22 => k_is); (case c22 => k_is); (case k22 => k_is); (case a23 => k_is); (case l23 => k_is); (case c23 => k_is); (case k23 => k_is); (case a24 => k_is); (case l24 => k_is); (case c24 => k_is); (case k24 => k_is); (case a25 => k_is); (case l25 => k_is); (case c25 => k_is); (case k25 => k_is); (case a26 => k_is); (case l26 => k_is); (case c26 => k_is); (case k26 => k_is); (case a27 => k_is); (case l27 => k_is); (case c27 => k_is); (case k27 => k_is); (case a28 => k_is); (case l28 => k_is); (case c28 => k_is); (case k28 => k_is); (case a29 => k_is); (case l29 => k_is); (case c29 => k_is); (case k29 => k_is); (case a30 => k_is); (case l30 => k_is); (case c30 => k_is); (case k30 => k_is); (case a31 => k_is); (case l31 => k_is); (case c31 => k_is); (case k31 => k_is); (case a32 => k_is); (case l32 => k_is); (case c32 => k_is); (case k32 => k_is); (case a33 => k_is); (case l33 => k_is); (case c33 => k_is); (case k33 => k_is); (case a34 => k_is); (case l34 => k_is); (case c34 => k_is); (case k34 => k_is); (case a35 => k_is); (case l35 => k_is); (case c35 => k_is); (case k35 => k_is); (case a36 => k_is); (case l36 => k_is); (case c36 => k_is); (case k36 => k_is); (case a37 => k_is); (case l37 => k_is); (case c37 => k_is); (case k37 => k_is); (case a38 => k_is); (case l38 => k_is); (case c38 => k_is); (case k38 => k_is); (case g_MOST_PLACES => k_is); (case g_MOST_AMOUNT => k_is); (case xg_NoWorld => k_is); (case xx_NoWorld => k_exc); (case xk_NoWorld => k_is); (case xb_NoWorld => k_is); (case xt_NoWorld => k_is); (case xg_NoPlan => k_is); (case xx_NoPlan => k_exc); (case xk_NoPlan => k_is); (case xb_NoPlan => k_is); (case xt_NoPlan => k_is); (case z0 => k_is); (case z1 => k_is); (case z2 => k_is); (case z3 => k_is); (case z4 => k_is); (case z5 => k_is); (case z6 => k_is); (case z7 => k_is); (case z8 => k_is); (case z9 => k_is); (case z10 => k_is); (case z11 => k_is); (case z12 => k_is); (case z13 => k_is); (case z14 => k_is); (case z15 => k_is); (case z16 => k_is); (case z17 => k_is); (case z18 => k_is)
