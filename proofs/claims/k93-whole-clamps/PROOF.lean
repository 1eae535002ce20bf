import PyProof.Rows.All
import Wide.All
import OpenK.AllK
import Wide.FinOn
import KE.KStateDown
import HandS.ForMost
import HandS.ForExc
import HandS.More
import HandS.Wide
import HandS.TupAny
import HandS.IsInst
import HandS.Walk
import HandS.Flow
import HandS.Style
import HandS.ExcIs
import HandS.TryMany
import KE.KExcIs
import HandS.ExcField
import HandS.Conv
import KE.KRevSl
import PyProof.LongRange
import HandS.HeadHook2
import PyProof.ExcBaseAll.ValueError
import HandS.HeadEnd
import HandS.EndBits
import HandS.Head2
import PySem.Challenge.RW_splitwhole_k93_whole_clamps
set_option Elab.async false
set_option linter.all false
set_option maxRecDepth 100000
set_option maxHeartbeats 2000000
/-! # Mini, part A: values, the store, the meaning of the small language as Lean functions -/
namespace Mini
open PySem

/-- a value: mutable things are places of the store; rol: a list that is only read -/
inductive D where
  | non | bl (b : Bool) | int (i : Int) | str (x : Str) | tup (xs : List D) | rol (xs : List D) | loc (n : Nat) | exn (c : Nat) (fs : List D)
  deriving Inhabited

inductive Ob where
  | lst (xs : List D)
  | dct (kvs : List (D × D))
  deriving Inhabited

abbrev Store := List Ob
inductive Res (α : Type) where
  | ok (a : α) (μ : Store)
  | err (c : Nat) (fs : List D) (μ : Store)
  | stuck
abbrev M (α : Type) := Store → Res α
abbrev Env := List (Option D)
abbrev Den := Env → M D
abbrev DenT := Env → M Bool
abbrev DenA := Env → M (List D)
def ret {α : Type} (a : α) : M α := fun μ => .ok a μ
def stk {α : Type} : M α := fun _ => .stuck
def bnd {α β : Type} (m : M α) (k : α → M β) : M β := fun μ => match m μ with
  | .ok a μ' => k a μ'
  | .err c fs μ' => .err c fs μ'
  | .stuck => .stuck
/-- where b, a; else stuck -/
def grd {α : Type} (p : Prop) [Decidable p] (m : M α) : M α := if p then m else stk
def lineN : Nat := 16777216
def alloc (o : Ob) : M D := fun μ => .ok (.loc μ.length) (μ ++ [o])

/-! ### by values -/
def smallI (i : Int) : Prop := -(2 ^ 64) < i ∧ i < 2 ^ 64
instance (i : Int) : Decidable (smallI i) := inferInstanceAs (Decidable (_ ∧ _))
def mulOk (i j : Int) : Prop := smallI i ∨ smallI j ∨ i.natAbs.log2 + j.natAbs.log2 < 1000000
instance (i j : Int) : Decidable (mulOk i j) := inferInstanceAs (Decidable (_ ∨ _ ∨ _))
def optM {α : Type} (o : Option α) : M α := fun μ => match o with
  | some a => .ok a μ
  | none => .stuck
/-- the items of a list or a tuple -/
def items (d : D) : M (List D) := fun μ => match d with
  | .tup xs => .ok xs μ
  | .rol xs => .ok xs μ
  | .loc n => match μ[n]? with
    | some (.lst xs) => .ok xs μ
    | _ => .stuck
  | _ => .stuck
/-- the items of a list -/
def litems (d : D) : M (List D) := fun μ => match d with
  | .rol xs => .ok xs μ
  | .loc n => match μ[n]? with
    | some (.lst xs) => .ok xs μ
    | _ => .stuck
  | _ => .stuck
/-- a place is written -/
def wr (n : Nat) (xs : List D) : M Unit := fun μ => .ok () (μ.set n (.lst xs))
def newL (xs : List D) : M D := if xs.length ≤ lineN then alloc (.lst xs) else stk
def newT (xs : List D) : M D := if xs.length ≤ lineN then ret (.tup xs) else stk
def addD (a b : D) : M D := match a, b with
  | .int i, .int j => ret (.int (i + j))
  | .str x, .str y => if x.length + y.length ≤ lineN then ret (.str (x ++ y)) else stk
  | .tup xs, .tup ys => newT (xs ++ ys)
  | .loc n, .loc m => bnd (litems (.loc n)) fun xs => bnd (litems (.loc m)) fun ys => newL (xs ++ ys)
  | _, _ => stk
def subD (a b : D) : M D := match a, b with
  | .int i, .int j => ret (.int (i - j))
  | _, _ => stk
def mulD (a b : D) : M D := match a, b with
  | .int i, .int j => if mulOk i j then ret (.int (i * j)) else stk
  | _, _ => stk
def divD (a b : D) : M D := match a, b with
  | .int i, .int j => if 0 < j ∧ j.natAbs.log2 < 9000 then ret (.int (i / j)) else if j ≠ 0 ∧ j.natAbs < 1073741824 then ret (.int (i.fdiv j)) else stk
  | _, _ => stk
def modD (a b : D) : M D := match a, b with
  | .int i, .int j => if 0 < j then ret (.int (i % j)) else if j ≠ 0 then ret (.int (i.fmod j)) else stk
  | _, _ => stk
def powD (a b : D) : M D := match a, b with
  | .int i, .int j => if 0 ≤ j ∧ j ≤ 1000000 ∧ i.natAbs < 2 ^ 64 then ret (.int (i ^ j.toNat)) else stk
  | _, _ => stk
def negD (a : D) : M D := match a with
  | .int i => ret (.int (-i))
  | _ => stk
/-! comparisons -/
mutual
/-- the value as the library's data; lists by l -/
def toPy (l : Nat → Option PyData) : D → Option PyData
  | .non => some .none
  | .bl b => some (.bool b)
  | .int i => some (.int i)
  | .str x => some (.str x)
  | .tup xs => (toPys l xs).map .tuple
  | .rol xs => (toPys l xs).map .list
  | .loc n => l n
  | .exn _ _ => none
def toPys (l : Nat → Option PyData) : List D → Option (List PyData)
  | [] => some []
  | d :: ds => (toPy l d).bind fun x => (toPys l ds).map fun xs => x :: xs
end
/-- lists within lists to a depth -/
def lPy (μ : Store) : Nat → Nat → Option PyData
  | 0, _ => none
  | k + 1, n => match μ[n]? with
    | some (.lst xs) => (toPys (lPy μ k) xs).map .list
    | _ => none
def pyOf (μ : Store) (d : D) : Option PyData := toPy (lPy μ 4) d
def eqB (a b : D) : M Bool := fun μ => match pyOf μ a, pyOf μ b with
  | some x, some y => if SeqAt.shaped x = true ∧ SeqAt.shaped y = true then .ok (PyData.eqv x y) μ else .stuck
  | _, _ => .stuck
def cmpI (p : Int → Int → Bool) (a b : D) : M Bool := match a, b with
  | .int i, .int j => ret (p i j)
  | _, _ => stk
inductive Cop where
  | eq | ne | lt | le | gt | ge | is | nis | inn | nin
/-- the order of tuples of ints -/
def intsOf : List D → Option (List Int)
  | [] => some []
  | .int i :: ds => (intsOf ds).map fun r => i :: r
  | _ => none
def ltB (a b : D) : M Bool := match a, b with
  | .int i, .int j => ret (decide (i < j))
  | .tup xs, .tup ys => bnd (optM (intsOf xs)) fun ns => bnd (optM (intsOf ys)) fun ms => ret (HT.lexLt ns ms)
  | _, _ => stk
/-- flat things: None, bools, ints, texts -/
def flatD : D → Bool
  | .non => true
  | .bl _ => true
  | .int _ => true
  | .str _ => true
  | _ => false
def eqF : D → D → Bool
  | .non, .non => true
  | .bl a, .bl b => a == b
  | .bl a, .int b => (if a then 1 else 0) == b
  | .int a, .bl b => a == (if b then 1 else 0)
  | .int a, .int b => a == b
  | .str a, .str b => a == b
  | _, _ => false
def inB (a b : D) : M Bool := match b with
  | .str z => match a with
    | .str y => if y.length = 1 then ret (decide (y.cps.getD 0 0 ∈ z.cps.toList)) else stk
    | _ => stk
  | b => bnd (items b) fun xs => if flatD a = true ∧ xs.all flatD = true then ret (xs.any fun y => eqF y a) else stk
def nonB : D → Bool
  | .non => true
  | _ => false
def isB (a b : D) : M Bool := match b with
  | .non => ret (nonB a)
  | .bl y => match a with
    | .bl x => ret (decide (x = y))
    | _ => stk
  | _ => stk
def cmpB (op : Cop) (a b : D) : M Bool := match op with
  | .eq => eqB a b
  | .ne => bnd (eqB a b) fun c => ret (!c)
  | .lt => ltB a b
  | .le => cmpI (fun i j => decide (i ≤ j)) a b
  | .gt => cmpI (fun i j => decide (j < i)) a b
  | .ge => cmpI (fun i j => decide (j ≤ i)) a b
  | .is => isB a b
  | .nis => bnd (isB a b) fun c => ret (!c)
  | .inn => inB a b
  | .nin => bnd (inB a b) fun c => ret (!c)
def truB (d : D) : M Bool := match d with
  | .bl b => ret b
  | .non => ret false
  | .int i => ret (i != 0)
  | .str x => if x.length ≤ lineN then ret ((x.length : Int) != 0) else stk
  | d => bnd (items d) fun xs => ret (!xs.isEmpty)

/-! ### expressions -/
def cVar (i : Nat) : Den := fun σ => match σ[i]? with
  | some (some (.exn _ _)) => stk
  | some (some d) => ret d
  | _ => stk
def cK (d : D) : Den := fun _ => ret d
def c1 (f : D → M D) (a : Den) : Den := fun σ => bnd (a σ) f
def c2 (f : D → D → M D) (a b : Den) : Den := fun σ => bnd (a σ) fun x => bnd (b σ) fun y => f x y
def bV (m : M Bool) : M D := bnd m fun b => ret (.bl b)
def cCmp (op : Cop) (a b : Den) : Den := fun σ => bnd (a σ) fun x => bnd (b σ) fun y => bV (cmpB op x y)
def tCmp (op : Cop) (a b : Den) : DenT := fun σ => bnd (a σ) fun x => bnd (b σ) fun y => cmpB op x y
/-- a op b op' c, b asked once -/
def tChn (op op' : Cop) (a b c : Den) : DenT := fun σ => bnd (a σ) fun x => bnd (b σ) fun y => bnd (cmpB op x y) fun k => if k = true then bnd (c σ) fun z => cmpB op' y z else ret false
def cChn (op op' : Cop) (a b c : Den) : Den := fun σ => bV (tChn op op' a b c σ)
def tVal (a : Den) : DenT := fun σ => bnd (a σ) truB
def tNot (t : DenT) : DenT := fun σ => bnd (t σ) fun b => ret (!b)
def tAnd (t u : DenT) : DenT := fun σ => bnd (t σ) fun b => if b = true then u σ else ret false
def tOr (t u : DenT) : DenT := fun σ => bnd (t σ) fun b => if b = true then ret true else u σ
def tIf (c t u : DenT) : DenT := fun σ => bnd (c σ) fun b => if b = true then t σ else u σ
/-- as values: the first ones are bools -/
def asB (d : D) : M Bool := match d with
  | .bl b => ret b
  | _ => stk
def cAnd (a b : Den) : Den := fun σ => bnd (a σ) fun x => bnd (asB x) fun k => if k = true then b σ else ret (.bl false)
def cOr (a b : Den) : Den := fun σ => bnd (a σ) fun x => bnd (asB x) fun k => if k = true then ret (.bl true) else b σ
def cNot (a : Den) : Den := fun σ => bnd (a σ) fun x => bnd (asB x) fun k => ret (.bl (!k))
def cIf (c : DenT) (a b : Den) : Den := fun σ => bnd (c σ) fun k => if k = true then a σ else b σ
def aNil : DenA := fun _ => ret []
def aCons (a : Den) (r : DenA) : DenA := fun σ => bnd (a σ) fun x => bnd (r σ) fun xs => ret (x :: xs)
abbrev Orc := Nat → List D → M D
def cCall (C : Orc) (i : Nat) (a : DenA) : Den := fun σ => bnd (a σ) (C i)
def cB (g : List D → M D) (a : DenA) : Den := fun σ => bnd (a σ) g
/-- a method: c looks at the receiver, g does it -/
def cM (c : D → M Unit) (g : D → List D → M D) (o : Den) (a : DenA) : Den := fun σ => bnd (o σ) fun x => bnd (c x) fun _ => bnd (a σ) fun ys => g x ys
def cTup (a : DenA) : Den := fun σ => bnd (a σ) newT
def cLst (a : DenA) : Den := fun σ => bnd (a σ) newL
/-! subscripts -/
def ixD (a b : D) : M D := match b with
  | .int i => match a with
    | .str z => if z.length ≤ lineN then bnd (optM (L2.atI z.cps.toList i)) fun c => ret (.str ⟨#[c]⟩) else stk
    | a => bnd (items a) fun xs => optM (L2.atI xs i)
  | _ => stk
/-- the part of a slice -/
def cutL {α : Type} (xs : List α) (lo hi : Option Int) : List α := (xs.drop (HT.sIx xs.length 0 lo)).take (HT.sIx xs.length xs.length hi - HT.sIx xs.length 0 lo)
def slD (a : D) (lo hi : Option Int) : M D := match a with
  | .tup xs => ret (.tup (cutL xs lo hi))
  | .str z => if z.length ≤ lineN then ret (.str ⟨(cutL z.cps.toList lo hi).toArray⟩) else stk
  | .rol xs => alloc (.lst (cutL xs lo hi))
  | .loc n => bnd (litems (.loc n)) fun xs => alloc (.lst (cutL xs lo hi))
  | _ => stk
abbrev DenP := Env → M (Option Int)
def pNo : DenP := fun _ => ret none
def pSome (a : Den) : DenP := fun σ => bnd (a σ) fun x => match x with
  | .int i => ret (some i)
  | _ => stk
def cSl (a : Den) (lo hi : DenP) : Den := fun σ => bnd (a σ) fun x => bnd (lo σ) fun l => bnd (hi σ) fun h => slD x l h

/-! ### built-in functions -/
def isLst (d : D) : M Unit := match d with
  | .loc _ => bnd (litems d) fun _ => ret ()
  | _ => stk
def isStr (d : D) : M Unit := match d with
  | .str _ => ret ()
  | _ => stk
/-- a function of the items of its one argument -/
def ofItems (g : List D → M D) : List D → M D := fun ds => match ds with
  | [d] => bnd (items d) g
  | _ => stk
def bLen (ds : List D) : M D := match ds with
  | [.str x] => if x.length ≤ lineN then ret (.int x.length) else stk
  | [d] => bnd (items d) fun xs => ret (.int xs.length)
  | _ => stk
def bAbs (ds : List D) : M D := match ds with
  | [.int i] => ret (.int (if i < 0 then -i else i))
  | _ => stk
def bInt (ds : List D) : M D := match ds with
  | [.int i] => ret (.int i)
  | [.bl b] => ret (.int (if b then 1 else 0))
  | _ => stk
def bMin (ds : List D) : M D := match ds with
  | [.int i, .int j] => ret (.int (if j < i then j else i))
  | _ => stk
def bMax (ds : List D) : M D := match ds with
  | [.int i, .int j] => ret (.int (if j > i then j else i))
  | _ => stk
def bSumI (xs : List D) : M D := bnd (optM (intsOf xs)) fun ns => ret (.int ns.sum)
def blsOf : List D → Option (List Bool)
  | [] => some []
  | .bl b :: ds => (blsOf ds).map fun r => b :: r
  | _ => none
def bAllI (xs : List D) : M D := bnd (optM (blsOf xs)) fun bs => ret (.bl (bs.all id))
def bAnyI (xs : List D) : M D := bnd (optM (blsOf xs)) fun bs => ret (.bl (bs.any id))
/-- list(range(..)) -/
def rngL (lo hi : Int) : List D := (List.range (hi - lo).toNat).map fun (k : Nat) => .int (lo + k)
/-! methods of lists -/
def mAppend (d : D) (ds : List D) : M D := match d, ds with
  | .loc n, [y] => bnd (litems (.loc n)) fun xs => if xs.length < lineN then bnd (wr n (xs ++ [y])) fun _ => ret .non else stk
  | _, _ => stk
def mPop (d : D) (ds : List D) : M D := match d, ds with
  | .loc n, [] => bnd (litems (.loc n)) fun xs => bnd (optM xs[xs.length - 1]?) fun y => bnd (wr n xs.dropLast) fun _ => ret y
  | .loc n, [.int i] => bnd (litems (.loc n)) fun xs => if 0 ≤ i ∧ i < xs.length ∧ i < 2 ^ 63 then bnd (optM xs[i.toNat]?) fun y => bnd (wr n (xs.eraseIdx i.toNat)) fun _ => ret y else stk
  | _, _ => stk
/-! isinstance -/
inductive Ty where
  | int | bool | str | tup | lst | dct | verr | exc (c : Nat)
/-- a thing's own type -/
inductive Kd where
  | non | bl | int | str | tup | lst | dct
def kdOf (μ : Store) : D → Option Kd
  | .non => some .non
  | .bl _ => some .bl
  | .int _ => some .int
  | .str _ => some .str
  | .tup _ => some .tup
  | .rol _ => some .lst
  | .loc n => match μ[n]? with
    | some (.lst _) => some .lst
    | some (.dct _) => some .dct
    | none => none
  | .exn _ _ => none
def kdIs : Kd → Ty → Option Bool
  | _, .exc _ => none
  | _, .verr => none
  | .int, .int => some true
  | .bl, .int => some true
  | .bl, .bool => some true
  | .str, .str => some true
  | .tup, .tup => some true
  | .lst, .lst => some true
  | .dct, .dct => some true
  | _, _ => some false
def kdAny (k : Kd) : List Ty → Option Bool
  | [] => some false
  | t :: ts => match kdIs k t with
    | some true => some true
    | some false => kdAny k ts
    | none => none
def isTy (d : D) (t : Ty) : M Bool := fun μ => match (kdOf μ d).bind fun k => kdIs k t with
  | some b => .ok b μ
  | none => .stuck
def isTys (d : D) (ts : List Ty) : M Bool := fun μ => match (kdOf μ d).bind fun k => kdAny k ts with
  | some b => .ok b μ
  | none => .stuck
def cIs1 (a : Den) (t : Ty) : Den := fun σ => bnd (a σ) fun x => bV (isTy x t)
def cIs (a : Den) (ts : List Ty) : Den := fun σ => bnd (a σ) fun x => bV (isTys x ts)
/-- of the exception in a slot; sup: which classes are above a class -/
def isE (sup : Nat → Nat → Option Bool) (c : Nat) : Ty → Option Bool
  | .exc e => sup c e
  | .verr => (sup c c).map fun _ => true
  | _ => none
def isEs (sup : Nat → Nat → Option Bool) (c : Nat) : List Ty → Option Bool
  | [] => (sup c c).map fun _ => false
  | t :: ts => match isE sup c t with
    | some true => some true
    | some false => isEs sup c ts
    | none => none
def cIsE1 (sup : Nat → Nat → Option Bool) (i : Nat) (t : Ty) : Den := fun σ => match σ[i]? with
  | some (some (.exn c _)) => bnd (optM (isE sup c t)) fun b => ret (.bl b)
  | _ => stk
def cIsE (sup : Nat → Nat → Option Bool) (i : Nat) (ts : List Ty) : Den := fun σ => match σ[i]? with
  | some (some (.exn c _)) => bnd (optM (isEs sup c ts)) fun b => ret (.bl b)
  | _ => stk
/-- the field of the exception in a slot; fl: the classes that have it -/
def cFld (fl : Nat → Bool) (i : Nat) : Den := fun σ => match σ[i]? with
  | some (some (.exn c fs)) => if fl c = true then bnd (optM fs[0]?) ret else stk
  | _ => stk

/-! ### what is walked -/
/-- at turn i: none: stuck; some none: the end -/
abbrev Src := Nat → Store → Option (Option D)
abbrev DenI := Env → M Src
def srcOf (xs : List D) : Src := fun i _ => some xs[i]?
def srcL (n : Nat) : Src := fun i μ => match μ[n]? with
  | some (.lst xs) => some xs[i]?
  | _ => none
def srcD (d : D) : M Src := match d with
  | .tup xs => ret (srcOf xs)
  | .rol xs => ret (srcOf xs)
  | .loc n => bnd (litems (.loc n)) fun _ => ret (srcL n)
  | .str z => ret (srcOf (z.cps.toList.map fun c => .str ⟨#[c]⟩))
  | _ => stk
def iV (a : Den) : DenI := fun σ => bnd (a σ) srcD
def srcR (lo hi : Int) : Src := fun i _ => some (if i < (hi - lo).toNat then some (.int (lo + i)) else none)
def rngOk (i : Int) : Prop := -(2 ^ 62) ≤ i ∧ i < 2 ^ 62
instance (i : Int) : Decidable (rngOk i) := inferInstanceAs (Decidable (_ ∧ _))
def iRng1 (a : Den) : DenI := fun σ => bnd (a σ) fun x => match x with
  | .int j => if rngOk j then ret (srcR 0 j) else stk
  | _ => stk
def iRng2 (a b : Den) : DenI := fun σ => bnd (a σ) fun x => bnd (b σ) fun y => match x, y with
  | .int i, .int j => if rngOk i ∧ rngOk j then ret (srcR i j) else stk
  | _, _ => stk

/-! ### targets -/
abbrev DenG := D → Env → M Env
def gN (i : Nat) : DenG := fun d σ => ret (σ.set i (some d))
abbrev DenGs := List D → Env → M Env
def gsNil : DenGs := fun ds σ => match ds with
  | [] => ret σ
  | _ => stk
def gsCons (g : DenG) (r : DenGs) : DenGs := fun ds σ => match ds with
  | d :: ds => bnd (g d σ) fun σ' => r ds σ'
  | _ => stk
def gT (n : Nat) (r : DenGs) : DenG := fun d σ => match d with
  | .tup xs => if xs.length = n then r xs σ else stk
  | _ => stk
def setD (o i d : D) : M Unit := match i with
  | .int k => match o with
    | .loc n => bnd (litems (.loc n)) fun xs => bnd (optM (L2.ixN xs.length k)) fun j => wr n (xs.set j d)
    | _ => stk
  | _ => stk
def gI (o i : Den) : DenG := fun d σ => bnd (o σ) fun x => bnd (i σ) fun y => bnd (setD x y d) fun _ => ret σ

/-! ### comprehensions -/
def noErr {α : Type} (m : M α) : M α := fun μ => match m μ with
  | .ok a μ' => .ok a μ'
  | _ => .stuck
def wip (σ : Env) : List Nat → Env
  | [] => σ
  | v :: vs => (wip σ vs).set v none
def lcLoop (g : DenG) (t : DenT) (e : Den) (src : Src) (σ : Env) : Nat → Nat → List D → M (List D)
  | 0, _, _ => stk
  | n + 1, i, acc => fun μ => match src i μ with
    | none => .stuck
    | some none => .ok acc μ
    | some (some d) => bnd (g d σ) (fun σ1 => bnd (t σ1) fun b => if b = true then bnd (e σ1) (fun y => if acc.length < lineN then lcLoop g t e src σ n (i + 1) (acc ++ [y]) else stk) else lcLoop g t e src σ n (i + 1) acc) μ
def tYes : DenT := fun _ => ret true
/-- the items of a list comprehension -/
def lcI (own : List Nat) (it : DenI) (g : DenG) (t : DenT) (e : Den) : Env → M (List D) := fun σ => bnd (it σ) fun src => noErr (lcLoop g t e src (wip σ own) 1000000000 0 [])
def cLc (own : List Nat) (it : DenI) (g : DenG) (t : DenT) (e : Den) : Den := fun σ => bnd (lcI own it g t e σ) fun ys => alloc (.lst ys)
/-- a built-in function of the items of a list that nothing else holds -/
def cBL (g : List D → M D) (a : Env → M (List D)) : Den := fun σ => bnd (a σ) g

/-! ### statements -/
inductive Fl where
  | nx (σ : Env) | rt (d : D) | bk (σ : Env) | ct (σ : Env) | ex (c : Nat) (fs : List D) (σ : Env)
abbrev DenS := Env → M Fl
/-- an expression's error at the slots as they are -/
def lft {α : Type} (σ : Env) (m : M α) (k : α → M Fl) : M Fl := fun μ => match m μ with
  | .ok a μ' => k a μ'
  | .err c fs μ' => .ok (.ex c fs σ) μ'
  | .stuck => .stuck
def sNil : DenS := fun σ => ret (.nx σ)
def sSeq (s t : DenS) : DenS := fun σ => bnd (s σ) fun f => match f with
  | .nx σ' => t σ'
  | f => ret f
def sRet (e : Den) : DenS := fun σ => lft σ (e σ) fun d => ret (.rt d)
def sRetN : DenS := fun _ => ret (.rt .non)
def sExp (e : Den) : DenS := fun σ => lft σ (e σ) fun _ => ret (.nx σ)
def sIf (c : DenT) (s t : DenS) : DenS := fun σ => lft σ (c σ) fun b => if b = true then s σ else t σ
def sAsg (g : DenG) (e : Den) : DenS := fun σ => lft σ (e σ) fun d => bnd (noErr (g d σ)) fun σ' => ret (.nx σ')
/-- a, b = x, y -/
def sPar (i j : Nat) (a : DenA) : DenS := fun σ => lft σ (a σ) fun ds => match ds with
  | [x, y] => ret (.nx ((σ.set i (some x)).set j (some y)))
  | _ => stk
def sBrk : DenS := fun σ => ret (.bk σ)
def sCnt : DenS := fun σ => ret (.ct σ)
def forLoop (g : DenG) (b : DenS) (src : Src) : Nat → Nat → Env → M Fl
  | 0, _, _ => stk
  | n + 1, i, σ => fun μ => match src i μ with
    | none => .stuck
    | some none => .ok (.nx σ) μ
    | some (some d) => bnd (noErr (g d σ)) (fun σ1 => bnd (b σ1) fun f => match f with
      | .nx σ2 => forLoop g b src n (i + 1) σ2
      | .ct σ2 => forLoop g b src n (i + 1) σ2
      | .bk σ2 => ret (.nx σ2)
      | .rt d => ret (.rt d)
      | .ex c fs σ2 => ret (.ex c fs σ2)) μ
def sFor (it : DenI) (g : DenG) (b : DenS) : DenS := fun σ => lft σ (it σ) fun src => forLoop g b src 1000000000 0 σ
def whileLoop (c : DenT) (b : DenS) : Nat → Env → M Fl
  | 0, _ => stk
  | n + 1, σ => lft σ (c σ) fun k => if k = true then bnd (b σ) (fun f => match f with
      | .nx σ2 => whileLoop c b n σ2
      | .ct σ2 => whileLoop c b n σ2
      | .bk σ2 => ret (.nx σ2)
      | .rt d => ret (.rt d)
      | .ex c fs σ2 => ret (.ex c fs σ2)) else ret (.nx σ)
def sWhile (c : DenT) (b : DenS) : DenS := whileLoop c b 1000000000
def sRaise (c : Nat) : DenS := fun σ => ret (.ex c [] σ)
/-- try: b; except C as n: h (n in slot i); sup: which classes are above a class -/
def sTry (sup : Nat → Nat → Option Bool) (b : DenS) (c i : Nat) (h : DenS) : DenS := fun σ => bnd (b σ) fun f => match f with
  | .ex e fs σ1 => bnd (optM (sup e c)) fun k => if k = true then bnd (h (σ1.set i (some (.exn e fs)))) fun f => match f with
      | .rt d => ret (.rt d)
      | _ => stk else ret (.ex e fs σ1)
  | f => ret f

/-! ### defs -/
mutual
/-- no place from n on -/
def D.lt (n : Nat) : D → Bool
  | .tup xs => lts n xs
  | .rol xs => lts n xs
  | .loc m => decide (m < n)
  | .exn _ _ => false
  | _ => true
def lts (n : Nat) : List D → Bool
  | [] => true
  | d :: ds => d.lt n && lts n ds
end
def Ob.lt (n : Nat) : Ob → Bool
  | .lst xs => lts n xs
  | .dct kvs => kvs.all fun kv => kv.1.lt n && kv.2.lt n
structure Fn where
  np : Nat
  ns : Nat
  den : Orc → DenS
def start (ns : Nat) (ds : List D) : Env := ds.map some ++ List.replicate (ns - ds.length) none
/-- what the call made and nothing holds is forgotten -/
def tidy (n : Nat) (d : D) (μ : Store) : Res D := if d.lt n = true ∧ (μ.take n).all (Ob.lt n) = true then .ok d (μ.take n) else .ok d μ
def tidyE (n : Nat) (c : Nat) (fs : List D) (μ : Store) : Res D := if lts n fs = true ∧ (μ.take n).all (Ob.lt n) = true then .err c fs (μ.take n) else .err c fs μ
def runFn (f : Fn) (C : Orc) (ds : List D) : M D := fun μ => if ds.length = f.np then (match f.den C (start f.ns ds) μ with
  | .ok (.nx _) μ' => tidy μ.length .non μ'
  | .ok (.rt d) μ' => tidy μ.length d μ'
  | .ok (.ex c fs _) μ' => tidyE μ.length c fs μ'
  | _ => .stuck) else .stuck
def callN (T : List Fn) : Nat → Orc
  | 0, _, _ => stk
  | k + 1, i, ds => match T[i]? with
    | some f => runFn f (callN T k) ds
    | none => stk
end Mini

set_option Elab.async false
set_option linter.all false
set_option maxRecDepth 100000
set_option maxHeartbeats 2000000
/-! # Mini, part B: how values and the store stand in the abstract heap -/
namespace Mini
open PySem PySem.Spec L2

/-- the tables: the written part, the exception classes by number (address, fields) -/
structure Gt where
  K : PySem.W.Frag
  excA : Nat → Addr
  excF : Nat → List Str

/-- a plain value -/
def plainV : D → Option V
  | .non => some .non
  | .bl b => some (.bl b)
  | .int i => some (.int i)
  | .str x => some (.str x)
  | _ => none
/-- the fields of an exception: its own dict -/
def XdR (G : Gt) (c : Nat) (fs : List D) (od : Option Addr) (H : Hp) : Prop :=
  (fs = [] ∧ od = none) ∨ ∃ dx vs, fs ≠ [] ∧ od = some dx ∧ H dx = some (.xd ((G.excF c).zip vs)) ∧ fs.map plainV = vs.map some
/-- a list that is only read -/
def SqF (K : PySem.W.Frag) (H : Hp) (a : Addr) (xs : List V) : Prop :=
  (∃ o, H a = some (.frz o (.lst xs))) ∨ ∃ (o : Obj) (its : Array Value) (n : Nat), K.lookup a = some o ∧ o.cls = .type "list" ∧ o.dict = none ∧ o.data = .seq its n ∧ its.size ≤ sizeLine ∧ Vals xs its.toList
theorem SqF.sq {K : PySem.W.Frag} {H : Hp} {a : Addr} {xs : List V} (h : SqF K H a xs) : SqL K H a xs := by
  rcases h with ⟨o, h⟩ | h
  · exact .inl (.inr ⟨o, h⟩)
  · exact .inr h
section
variable (G : Gt) (H : Hp) (ι : List Addr)
mutual
def Rp : D → V → Prop
  | .non, v => v = .non
  | .bl b, v => v = .bl b
  | .int i, v => v = .int i
  | .str x, v => v = .str x
  | .tup xs, v => ∃ a vs, v = .ref a ∧ SqT G.K H a vs ∧ RpL xs vs
  | .rol xs, v => ∃ a vs, v = .ref a ∧ SqF G.K H a vs ∧ RpL xs vs
  | .loc n, v => ∃ a, ι[n]? = some a ∧ v = .ref a
  | .exn _ _, _ => False
def RpL : List D → List V → Prop
  | [], vs => vs = []
  | d :: ds, vs => ∃ v r, vs = v :: r ∧ Rp d v ∧ RpL ds r
end
end
/-- what never changes -/
def Imm : HO → Prop
  | .tup _ => True
  | .frz _ _ => True
  | .xd _ => True
  | _ => False
/-- from one abstract heap to a later one: ι, ι' the places' addresses -/
structure Ext (ι : List Addr) (H : Hp) (ι' : List Addr) (H' : Hp) : Prop where
  pre : ∃ r, ι' = ι ++ r
  old : ∀ b o, H b = some o → b ∉ ι → H' b = some o
  new : ∀ b, b ∈ ι' → b ∉ ι → H b = none
  imm : ∀ b o, H b = some o → Imm o → H' b = some o
theorem Ext.refl {ι : List Addr} {H : Hp} : Ext ι H ι H := ⟨⟨[], by simp⟩, fun _ _ h _ => h, fun b h1 h2 => absurd h1 h2, fun _ _ h _ => h⟩
theorem Ext.sub {ι ι' : List Addr} {H H' : Hp} (e : Ext ι H ι' H') {b : Addr} (h : b ∈ ι) : b ∈ ι' := by
  obtain ⟨r, rfl⟩ := e.pre
  exact List.mem_append_left _ h
theorem Ext.trans {ι ι1 ι2 : List Addr} {H H1 H2 : Hp} (a : Ext ι H ι1 H1) (b : Ext ι1 H1 ι2 H2) : Ext ι H ι2 H2 := by
  refine ⟨?_, fun c o h n => ?_, fun c h1 h2 => ?_, fun c o h i => b.imm c o (a.imm c o h i) i⟩
  · obtain ⟨r, rfl⟩ := a.pre
    obtain ⟨q, rfl⟩ := b.pre
    exact ⟨r ++ q, by rw [List.append_assoc]⟩
  · refine b.old c o (a.old c o h n) fun m => ?_
    have z := a.new c m n
    rw [h] at z
    cases z
  · by_cases m : c ∈ ι1
    · exact a.new c m h2
    · have z := b.new c h1 m
      cases q : H c with
      | none => rfl
      | some o =>
        rw [a.old c o q h2] at z
        cases z
/-- the part of it that values lean on -/
structure Le (ι : List Addr) (H : Hp) (ι' : List Addr) (H' : Hp) : Prop where
  get : ∀ (n : Nat) (a : Addr), ι[n]? = some a → ι'[n]? = some a
  imm : ∀ b o, H b = some o → Imm o → H' b = some o
theorem Ext.get {ι ι' : List Addr} {H H' : Hp} (e : Ext ι H ι' H') {n : Nat} {a : Addr} (h : ι[n]? = some a) : ι'[n]? = some a := by
  obtain ⟨r, rfl⟩ := e.pre
  obtain ⟨hl, _⟩ := List.getElem?_eq_some_iff.mp h
  rw [List.getElem?_append_left hl]
  exact h
theorem Ext.le {ι ι' : List Addr} {H H' : Hp} (e : Ext ι H ι' H') : Le ι H ι' H' := ⟨fun _ _ h => e.get h, e.imm⟩
theorem Rd.le {ι ι' : List Addr} {H H' : Hp} (e : Le ι H ι' H') {a : Addr} {vs : List V} (h : Rd H a (.tup vs)) : Rd H' a (.tup vs) := by
  rcases h with h | ⟨o, h⟩
  · exact .inl (e.imm _ _ h trivial)
  · exact .inr ⟨o, e.imm _ _ h trivial⟩
theorem SqT.le {K : PySem.W.Frag} {ι ι' : List Addr} {H H' : Hp} (e : Le ι H ι' H') {a : Addr} {vs : List V} (h : SqT K H a vs) : SqT K H' a vs := by
  rcases h with h | h
  · exact .inl (Rd.le e h)
  · exact .inr h
theorem SqF.le {K : PySem.W.Frag} {ι ι' : List Addr} {H H' : Hp} (e : Le ι H ι' H') {a : Addr} {vs : List V} (h : SqF K H a vs) : SqF K H' a vs := by
  rcases h with ⟨o, h⟩ | h
  · exact .inl ⟨o, e.imm _ _ h trivial⟩
  · exact .inr h
theorem XdR.le {G : Gt} {c : Nat} {fs : List D} {od : Option Addr} {ι ι' : List Addr} {H H' : Hp} (e : Le ι H ι' H') (h : XdR G c fs od H) : XdR G c fs od H' := by
  rcases h with h | ⟨dx, vs, h0, h1, h2, h3⟩
  · exact .inl h
  · exact .inr ⟨dx, vs, h0, h1, e.imm _ _ h2 trivial, h3⟩
section
variable {G : Gt} {H H' : Hp} {ι ι' : List Addr}
mutual
theorem Rp.le (e : Le ι H ι' H') : ∀ {d : D} {v : V}, Rp G H ι d v → Rp G H' ι' d v
  | .non, _, h => h
  | .bl _, _, h => h
  | .int _, _, h => h
  | .str _, _, h => h
  | .tup xs, _, h => by
    obtain ⟨a, vs, h1, h2, h3⟩ := h
    exact ⟨a, vs, h1, SqT.le e h2, RpL.le e h3⟩
  | .rol xs, _, h => by
    obtain ⟨a, vs, h1, h2, h3⟩ := h
    exact ⟨a, vs, h1, SqF.le e h2, RpL.le e h3⟩
  | .loc n, _, h => by
    obtain ⟨a, h1, h2⟩ := h
    exact ⟨a, e.get _ _ h1, h2⟩
  | .exn c fs, _, h => h.elim
theorem RpL.le (e : Le ι H ι' H') : ∀ {ds : List D} {vs : List V}, RpL G H ι ds vs → RpL G H' ι' ds vs
  | [], _, h => h
  | d :: ds, _, h => by
    obtain ⟨v, r, h1, h2, h3⟩ := h
    exact ⟨v, r, h1, Rp.le e h2, RpL.le e h3⟩
end
theorem Rp.ext (e : Ext ι H ι' H') {d : D} {v : V} (h : Rp G H ι d v) : Rp G H' ι' d v := Rp.le e.le h
theorem RpL.ext (e : Ext ι H ι' H') {d : List D} {v : List V} (h : RpL G H ι d v) : RpL G H' ι' d v := RpL.le e.le h
theorem RpL.length : ∀ {ds : List D} {vs : List V}, RpL G H ι ds vs → vs.length = ds.length
  | [], _, h => by rw [show _ = [] from h] <;> rfl
  | d :: ds, _, h => by
    obtain ⟨v, r, rfl, _, h3⟩ := h
    rw [List.length_cons, List.length_cons, RpL.length h3]
theorem RpL.get : ∀ {ds : List D} {vs : List V} {i : Nat} {d : D}, RpL G H ι ds vs → ds[i]? = some d → ∃ v, vs[i]? = some v ∧ Rp G H ι d v
  | [], _, _, _, _, e => by simp at e
  | x :: ds, _, 0, d, h, e => by
    obtain ⟨v, r, rfl, h2, _⟩ := h
    simp at e
    subst e
    exact ⟨v, rfl, h2⟩
  | x :: ds, _, i + 1, d, h, e => by
    obtain ⟨v, r, rfl, _, h3⟩ := h
    obtain ⟨w, e1, h1⟩ := RpL.get (i := i) (d := d) h3 (by simpa using e)
    exact ⟨w, by simpa using e1, h1⟩
theorem RpL.get' : ∀ {ds : List D} {vs : List V} {i : Nat} {v : V}, RpL G H ι ds vs → vs[i]? = some v → ∃ d, ds[i]? = some d ∧ Rp G H ι d v
  | [], _, _, _, h, e => by rw [show _ = [] from h] at e; simp at e
  | x :: ds, _, 0, _, h, e => by
    obtain ⟨v, r, rfl, h2, _⟩ := h
    simp at e
    subst e
    exact ⟨x, rfl, h2⟩
  | x :: ds, _, i + 1, w, h, e => by
    obtain ⟨v, r, rfl, _, h3⟩ := h
    obtain ⟨d, e1, h1⟩ := RpL.get' (i := i) (v := w) h3 (by simpa using e)
    exact ⟨d, by simpa using e1, h1⟩
theorem RpL.append : ∀ {ds es : List D} {vs ws : List V}, RpL G H ι ds vs → RpL G H ι es ws → RpL G H ι (ds ++ es) (vs ++ ws)
  | [], _, _, _, h, k => by rw [show _ = [] from h]; exact k
  | d :: ds, es, _, ws, h, k => by
    obtain ⟨v, r, rfl, h2, h3⟩ := h
    exact ⟨v, r ++ ws, rfl, h2, RpL.append h3 k⟩
theorem RpL.one {d : D} {v : V} (h : Rp G H ι d v) : RpL G H ι [d] [v] := ⟨v, [], rfl, h, rfl⟩
theorem RpL.take : ∀ {ds : List D} {vs : List V} (n : Nat), RpL G H ι ds vs → RpL G H ι (ds.take n) (vs.take n)
  | _, _, 0, _ => by rw [List.take_zero, List.take_zero]; rfl
  | [], _, n + 1, h => by rw [show _ = [] from h]; rfl
  | d :: ds, _, n + 1, h => by
    obtain ⟨v, r, rfl, h2, h3⟩ := h
    exact ⟨v, r.take n, rfl, h2, RpL.take n h3⟩
theorem RpL.drop : ∀ {ds : List D} {vs : List V} (n : Nat), RpL G H ι ds vs → RpL G H ι (ds.drop n) (vs.drop n)
  | _, _, 0, h => h
  | [], _, n + 1, h => by rw [show _ = [] from h]; rfl
  | d :: ds, _, n + 1, h => by
    obtain ⟨v, r, rfl, h2, h3⟩ := h
    exact RpL.drop n h3
theorem RpL.set : ∀ {ds : List D} {vs : List V} {d : D} {v : V} (n : Nat), RpL G H ι ds vs → Rp G H ι d v → RpL G H ι (ds.set n d) (vs.set n v)
  | [], _, _, _, n, h, _ => by rw [show _ = [] from h]; rfl
  | x :: ds, _, d, v, 0, h, k => by
    obtain ⟨w, r, rfl, h2, h3⟩ := h
    exact ⟨v, r, rfl, k, h3⟩
  | x :: ds, _, d, v, n + 1, h, k => by
    obtain ⟨w, r, rfl, h2, h3⟩ := h
    exact ⟨w, r.set n v, rfl, h2, RpL.set n h3 k⟩
theorem RpL.ints : ∀ {ns : List Int} {vs : List V}, RpL G H ι (ns.map D.int) vs → vs = ns.map V.int
  | [], _, h => h
  | n :: ns, _, h => by
    obtain ⟨v, r, rfl, h2, h3⟩ := h
    rw [show v = .int n from h2, RpL.ints h3]
    rfl
theorem RpL.ofInts : ∀ (ns : List Int), RpL G H ι (ns.map D.int) (ns.map V.int)
  | [] => rfl
  | n :: ns => ⟨.int n, ns.map V.int, rfl, rfl, RpL.ofInts ns⟩
end
/-- an object of the store at its address -/
def ObR (G : Gt) (H : Hp) (ι : List Addr) : Ob → Addr → Prop
  | .lst xs, a => ∃ vs, H a = some (.lst vs) ∧ RpL G H ι xs vs
  | .dct _, _ => False
structure Sd (G : Gt) (μ : Store) (ι : List Addr) (H : Hp) : Prop where
  len : ι.length = μ.length
  nd : ι.Nodup
  ob : ∀ (n : Nat) (o : Ob) (a : Addr), μ[n]? = some o → ι[n]? = some a → ObR G H ι o a
/-- what stands in a slot: a value, or the exception that a suite holds -/
def Ev (G : Gt) (pn : List (Addr × Obj)) (H : Hp) (ι : List Addr) (d : D) (v : V) : Prop :=
  Rp G H ι d v ∨ ∃ c fs a oe od, d = .exn c fs ∧ v = .ref a ∧ (a, oe) ∈ pn ∧ Zc (.ref (G.excA c)) od oe ∧ (∃ vs, oe.data = .fields vs) ∧ XdR G c fs od H
theorem Ev.le {G : Gt} {pn : List (Addr × Obj)} {H H' : Hp} {ι ι' : List Addr} {d : D} {v : V} (e : Le ι H ι' H') (h : Ev G pn H ι d v) : Ev G pn H' ι' d v := by
  rcases h with h | ⟨c, fs, a, oe, od, h1, h2, h3, h4, h5, h6⟩
  · exact .inl (Rp.le e h)
  · exact .inr ⟨c, fs, a, oe, od, h1, h2, h3, h4, h5, XdR.le e h6⟩
def Ed (G : Gt) (pn : List (Addr × Obj)) (σd : Env) (σ : St) (H : Hp) (ι : List Addr) : Prop :=
  σd.length = σ.length ∧ ∀ (i : Nat) (d : D), σd[i]? = some (some d) → ∃ v, σ[i]? = some (some v) ∧ Ev G pn H ι d v
section
variable {G : Gt} {pn : List (Addr × Obj)} {H H' : Hp} {ι ι' : List Addr} {μ : Store} {σd : Env} {σ : St}
theorem Ed.ext (e : Ext ι H ι' H') (h : Ed G pn σd σ H ι) : Ed G pn σd σ H' ι' := ⟨h.1, fun i d q => by
  obtain ⟨v, h1, h2⟩ := h.2 i d q
  exact ⟨v, h1, Ev.le e.le h2⟩⟩
theorem Ed.set {i : Nat} {d : D} {v : V} (h : Ed G pn σd σ H ι) (r : Rp G H ι d v) : Ed G pn (σd.set i (some d)) (σ.set i (some v)) H ι := by
  refine ⟨by rw [List.length_set, List.length_set]; exact h.1, fun j d' q => ?_⟩
  by_cases e : i = j
  · subst e
    by_cases hl : i < σd.length
    · rw [List.getElem?_set_self hl] at q
      cases q
      exact ⟨v, List.getElem?_set_self (by rw [← h.1]; exact hl), .inl r⟩
    · rw [List.getElem?_eq_none (by rw [List.length_set]; omega)] at q
      cases q
  · rw [List.getElem?_set_ne e] at q ⊢
    exact h.2 j d' q
theorem Ed.wipe (h : Ed G pn σd σ H ι) : ∀ vs : List Nat, Ed G pn (wip σd vs) (wipe σ vs) H ι
  | [] => h
  | v :: vs => by
    have q := Ed.wipe h vs
    refine ⟨by unfold wip L2.wipe; rw [List.length_set, List.length_set]; exact q.1, fun j d' e => ?_⟩
    unfold wip at e
    unfold L2.wipe
    by_cases hv : v = j
    · subst hv
      by_cases hl : v < (wip σd vs).length
      · rw [List.getElem?_set_self hl] at e
        cases e
      · rw [List.getElem?_eq_none (by rw [List.length_set]; omega)] at e
        cases e
    · rw [List.getElem?_set_ne hv] at e ⊢
      exact q.2 j d' e
/-- a new tracked object that is no place -/
theorem Ext.laid {p : Addr} {o : HO} (hp : H p = none) : Ext ι H ι (upd H p o) :=
  ⟨⟨[], by simp⟩, fun b u h _ => by rw [upd_ne (ne_of_none h hp)]; exact h, fun b h1 h2 => absurd h1 h2, fun b u h _ => by rw [upd_ne (ne_of_none h hp)]; exact h⟩
theorem ObR.le (e : Le ι H ι' H') {o : Ob} {a : Addr} (h : ObR G H ι o a) (k : ∀ u, H a = some u → H' a = some u) : ObR G H' ι' o a := by
  cases o with
  | lst xs =>
    obtain ⟨vs, h1, h2⟩ := h
    exact ⟨vs, k _ h1, RpL.le e h2⟩
  | dct kvs => exact h
theorem ObR.some {o : Ob} {a : Addr} (h : ObR G H ι o a) : ∃ u, H a = some u := by
  cases o with
  | lst xs =>
    obtain ⟨vs, h1, _⟩ := h
    exact ⟨_, h1⟩
  | dct kvs => exact h.elim
theorem Sd.at_ (h : Sd G μ ι H) {n : Nat} {o : Ob} (e : μ[n]? = some o) : ∃ a, ι[n]? = some a ∧ ObR G H ι o a := by
  obtain ⟨hl, _⟩ := List.getElem?_eq_some_iff.mp e
  have hi : n < ι.length := by rw [h.len]; exact hl
  exact ⟨ι[n], List.getElem?_eq_getElem hi, h.ob n o _ e (List.getElem?_eq_getElem hi)⟩
/-- a place's address is tracked -/
theorem Sd.there (h : Sd G μ ι H) {a : Addr} (m : a ∈ ι) : ∃ u, H a = some u := by
  obtain ⟨n, hn, rfl⟩ := List.getElem_of_mem m
  have hm : n < μ.length := by rw [← h.len]; exact hn
  exact (h.ob n _ _ (List.getElem?_eq_getElem hm) (List.getElem?_eq_getElem hn)).some
theorem Sd.notin (h : Sd G μ ι H) {p : Addr} (hp : H p = none) : p ∉ ι := fun m => by
  obtain ⟨u, e⟩ := h.there m
  rw [hp] at e
  cases e
theorem Sd.laid (h : Sd G μ ι H) {p : Addr} {o : HO} (hp : H p = none) : Sd G μ ι (upd H p o) :=
  ⟨h.len, h.nd, fun n ob a e1 e2 => (h.ob n ob a e1 e2).le (Ext.laid hp).le fun u q => by rw [upd_ne (ne_of_none q hp)]; exact q⟩
/-- a new place -/
theorem Sd.alloc (h : Sd G μ ι H) {p : Addr} {vs : List V} {xs : List D} (hp : H p = none) (r : RpL G H ι xs vs) :
    Ext ι H (ι ++ [p]) (upd H p (.lst vs)) ∧ Sd G (μ ++ [.lst xs]) (ι ++ [p]) (upd H p (.lst vs)) ∧ (ι ++ [p])[μ.length]? = some p := by
  have ex : Ext ι H (ι ++ [p]) (upd H p (.lst vs)) := by
    refine ⟨⟨[p], rfl⟩, fun b u q _ => by rw [upd_ne (ne_of_none q hp)]; exact q, fun b h1 h2 => ?_, fun b u q _ => by rw [upd_ne (ne_of_none q hp)]; exact q⟩
    rcases List.mem_append.mp h1 with z | z
    · exact absurd z h2
    · rw [List.mem_singleton.mp z]
      exact hp
  refine ⟨ex, ⟨by rw [List.length_append, List.length_append, h.len]; rfl, ?_, fun n o a e1 e2 => ?_⟩, ?_⟩
  · rw [List.nodup_append]
    refine ⟨h.nd, by simp, fun a ha b hb => ?_⟩
    rw [List.mem_singleton.mp hb]
    rintro rfl
    exact h.notin hp ha
  · by_cases hn : n < μ.length
    · rw [List.getElem?_append_left hn] at e1
      rw [List.getElem?_append_left (by rw [h.len]; exact hn)] at e2
      exact (h.ob n o a e1 e2).le ex.le fun u q => by rw [upd_ne (ne_of_none q hp)]; exact q
    · rw [List.getElem?_append_right (by omega)] at e1
      rw [List.getElem?_append_right (by rw [h.len]; omega)] at e2
      have z : n - μ.length = 0 := by
        obtain ⟨q, _⟩ := List.getElem?_eq_some_iff.mp e1
        simp at q
        omega
      rw [h.len] at e2
      rw [z] at e1 e2
      simp at e1 e2
      subst e1 e2
      exact ⟨vs, upd_same, RpL.ext ex r⟩
  · rw [List.getElem?_append_right (by rw [h.len]; exact Nat.le_refl _), h.len]
    simp
/-- the same where the object stands already, and is no place yet -/
theorem Sd.adopt (h : Sd G μ ι H) {p : Addr} {vs : List V} {xs : List D} (hp : H p = some (.lst vs)) (hn : p ∉ ι) (r : RpL G H ι xs vs) :
    Sd G (μ ++ [.lst xs]) (ι ++ [p]) H ∧ (ι ++ [p])[μ.length]? = some p := by
  have lo : Le ι H (ι ++ [p]) H := ⟨fun n a e => by
    obtain ⟨hl, _⟩ := List.getElem?_eq_some_iff.mp e
    rw [List.getElem?_append_left hl]
    exact e, fun _ _ z _ => z⟩
  refine ⟨⟨by rw [List.length_append, List.length_append, h.len]; rfl, ?_, fun n o a e1 e2 => ?_⟩, ?_⟩
  · rw [List.nodup_append]
    refine ⟨h.nd, by simp, fun a ha b hb => ?_⟩
    rw [List.mem_singleton.mp hb]
    rintro rfl
    exact hn ha
  · by_cases hl : n < μ.length
    · rw [List.getElem?_append_left hl] at e1
      rw [List.getElem?_append_left (by rw [h.len]; exact hl)] at e2
      exact (h.ob n o a e1 e2).le lo fun u q => q
    · rw [List.getElem?_append_right (by omega)] at e1
      rw [List.getElem?_append_right (by rw [h.len]; omega)] at e2
      have z : n - μ.length = 0 := by
        obtain ⟨q, _⟩ := List.getElem?_eq_some_iff.mp e1
        simp at q
        omega
      rw [h.len] at e2
      rw [z] at e1 e2
      simp at e1 e2
      subst e1 e2
      exact ⟨vs, hp, RpL.le lo r⟩
  · rw [List.getElem?_append_right (by rw [h.len]; exact Nat.le_refl _), h.len]
    simp
/-- a place is written -/
theorem Sd.write (h : Sd G μ ι H) {n : Nat} {a : Addr} {xs ys : List D} {vs ws : List V} (e : μ[n]? = some (.lst xs)) (ea : ι[n]? = some a) (ha : H a = some (.lst vs)) (r : RpL G H ι ys ws) :
    Ext ι H ι (upd H a (.lst ws)) ∧ Sd G (μ.set n (.lst ys)) ι (upd H a (.lst ws)) := by
  have ma : a ∈ ι := List.mem_of_getElem? ea
  have ex : Ext ι H ι (upd H a (.lst ws)) := by
    refine ⟨⟨[], by simp⟩, fun b u q hb => ?_, fun b h1 h2 => absurd h1 h2, fun b u q i => ?_⟩
    · rw [upd_ne (fun z => hb (by rw [z]; exact ma))]
      exact q
    · have ne : b ≠ a := by
        rintro rfl
        rw [ha] at q
        cases q
        exact i
      rw [upd_ne ne]
      exact q
  refine ⟨ex, ⟨by rw [List.length_set]; exact h.len, h.nd, fun m o b e1 e2 => ?_⟩⟩
  by_cases hm : n = m
  · subst hm
    obtain ⟨hl, _⟩ := List.getElem?_eq_some_iff.mp e
    rw [List.getElem?_set_self hl] at e1
    cases e1
    rw [ea] at e2
    cases e2
    exact ⟨ws, upd_same, RpL.ext ex r⟩
  · rw [List.getElem?_set_ne hm] at e1
    have ne : b ≠ a := by
      rintro rfl
      obtain ⟨h1, q1⟩ := List.getElem?_eq_some_iff.mp ea
      obtain ⟨h2, q2⟩ := List.getElem?_eq_some_iff.mp e2
      exact hm ((List.getElem_inj h.nd).mp (q1.trans q2.symm))
    exact (h.ob m o b e1 e2).le ex.le fun u q => by rw [upd_ne ne]; exact q
/-! ### what a call made is forgotten -/
mutual
theorem Rp.cut {n : Nat} : ∀ {d : D} {v : V}, d.lt n = true → Rp G H ι d v → Rp G H (ι.take n) d v
  | .non, _, _, h => h
  | .bl _, _, _, h => h
  | .int _, _, _, h => h
  | .str _, _, _, h => h
  | .tup xs, _, l, h => by
    obtain ⟨a, vs, h1, h2, h3⟩ := h
    exact ⟨a, vs, h1, h2, RpL.cut (by simpa [D.lt] using l) h3⟩
  | .rol xs, _, l, h => by
    obtain ⟨a, vs, h1, h2, h3⟩ := h
    exact ⟨a, vs, h1, h2, RpL.cut (by simpa [D.lt] using l) h3⟩
  | .loc m, _, l, h => by
    obtain ⟨a, h1, h2⟩ := h
    have l : m < n := by simpa [D.lt] using l
    exact ⟨a, by rw [List.getElem?_take_of_lt l]; exact h1, h2⟩
  | .exn c fs, _, l, h => h.elim
theorem RpL.cut {n : Nat} : ∀ {ds : List D} {vs : List V}, lts n ds = true → RpL G H ι ds vs → RpL G H (ι.take n) ds vs
  | [], _, _, h => h
  | d :: ds, _, l, h => by
    obtain ⟨v, r, h1, h2, h3⟩ := h
    have l : d.lt n = true ∧ lts n ds = true := by simpa [lts] using l
    exact ⟨v, r, h1, Rp.cut l.1 h2, RpL.cut l.2 h3⟩
end
theorem Sd.cut {n : Nat} (h : Sd G μ ι H) (l : (μ.take n).all (Ob.lt n) = true) : Sd G (μ.take n) (ι.take n) H := by
  refine ⟨by rw [List.length_take, List.length_take, h.len], h.nd.sublist (List.take_sublist _ _), fun m o a e1 e2 => ?_⟩
  have hm : m < n := by
    obtain ⟨q, _⟩ := List.getElem?_eq_some_iff.mp e1
    rw [List.length_take] at q
    omega
  have lo := List.all_eq_true.mp l o (List.mem_of_getElem? e1)
  rw [List.getElem?_take_of_lt hm] at e1 e2
  have q := h.ob m o a e1 e2
  cases o with
  | lst xs =>
    obtain ⟨vs, h1, h2⟩ := q
    exact ⟨vs, h1, RpL.cut (by simpa [Ob.lt] using lo) h2⟩
  | dct kvs => exact q
theorem Ext.cut (e : Ext ι H ι' H') : Ext ι H (ι'.take ι.length) H' := by
  obtain ⟨r, rfl⟩ := e.pre
  rw [List.take_left]
  exact ⟨⟨[], by simp⟩, e.old, fun b h1 h2 => absurd h1 h2, e.imm⟩
theorem Ed.start {vs : List V} {ds : List D} {ns : Nat} {N : List Str} (r : RpL G H ι ds vs) (hn : N.length = ns) : Ed G pn (start ns ds) (L2.start N vs) H ι := by
  have hl := r.length
  have e : L2.start N vs = vs.map some ++ List.replicate (ns - ds.length) none := by
    unfold L2.start
    rw [hn, hl]
  rw [e]
  refine ⟨by unfold Mini.start; simp [hl], fun i d q => ?_⟩
  unfold Mini.start at q
  by_cases hi : i < ds.length
  · rw [List.getElem?_append_left (by simpa using hi), List.getElem?_map] at q
    obtain ⟨x, hx⟩ : ∃ x, ds[i]? = some x := ⟨_, List.getElem?_eq_getElem hi⟩
    rw [hx] at q
    cases q
    obtain ⟨v, hv, rv⟩ := r.get hx
    exact ⟨v, by rw [List.getElem?_append_left (by simpa [hl] using hi), List.getElem?_map, hv]; rfl, .inl rv⟩
  · rw [List.getElem?_append_right (by simpa using hi), List.getElem?_replicate] at q
    split at q <;> cases q
end
end Mini

set_option Elab.async false
set_option linter.all false
set_option maxRecDepth 100000
set_option maxHeartbeats 2000000
/-! # Mini, part C: what a meaning asks of the machine; operators by values -/
namespace Mini
open PySem PySem.Spec L2

/-- behind a meaning -/
def Out {β : Type} (G : Gt) (W : WX) (σ : St) (ι : List Addr) (H : Hp) (R : β → List Addr → Hp → Prop) : Res β → Prop
  | .ok b μ => ∀ ι' H', Ext ι H ι' H' → Sd G μ ι' H' → R b ι' H'
  | .err c fs μ => ∀ od ι' H', Ext ι H ι' H' → Sd G μ ι' H' → XdR G c fs od H' → W (.ref (G.excA c)) od σ H'
  | .stuck => False
/-- a value is wanted -/
abbrev RV (G : Gt) (Q : VK) : D → List Addr → Hp → Prop := fun d ι H => ∀ v, Rp G H ι d v → Q v H
abbrev RB (Q : Bool → Hp → Prop) : Bool → List Addr → Hp → Prop := fun b _ H => Q b H
abbrev RA (G : Gt) (Q : List V → Hp → Prop) : List D → List Addr → Hp → Prop := fun ds ι H => ∀ vs, RpL G H ι ds vs → Q vs H
section
variable {G : Gt} {pn : List (Addr × Obj)} {W : WX} {σ : St} {ι ι1 : List Addr} {H H1 : Hp} {β γ : Type} {R : β → List Addr → Hp → Prop}
theorem Out.mono (e : Ext ι H ι1 H1) {r : Res β} (h : Out G W σ ι H R r) : Out G W σ ι1 H1 R r := by
  cases r with
  | ok b μ => exact fun ι' H' x s => h ι' H' (e.trans x) s
  | err c fs μ => exact fun od ι' H' x s q => h od ι' H' (e.trans x) s q
  | stuck => exact h
theorem Out.imp {R' : β → List Addr → Hp → Prop} {r : Res β} (h : Out G W σ ι H R r) (k : ∀ b ι' H', R b ι' H' → R' b ι' H') : Out G W σ ι H R' r := by
  cases r with
  | ok b μ => exact fun ι' H' x s => k _ _ _ (h ι' H' x s)
  | err c fs μ => exact h
  | stuck => exact h
/-- the first part of a sequence -/
theorem Out.fst {m : M γ} {k : γ → M β} {μ : Store} (h : Out G W σ ι H R (bnd m k μ)) : Out G W σ ι H (fun c ι' H' => ∃ μ', Sd G μ' ι' H' ∧ Ext ι H ι' H' ∧ Out G W σ ι' H' R (k c μ')) (m μ) := by
  unfold bnd at h
  cases e : m μ with
  | ok c μ' =>
    rw [e] at h
    exact fun ι' H' x s => ⟨μ', s, x, Out.mono x h⟩
  | err c fs μ' =>
    rw [e] at h
    exact h
  | stuck =>
    rw [e] at h
    exact h
theorem Out.ret_ {b : β} {μ : Store} (h : Out G W σ ι H R (ret b μ)) (sd : Sd G μ ι H) : R b ι H := h ι H Ext.refl sd
end

/-! ### the judgements -/
def tE (G : Gt) (pn : List (Addr × Obj)) (W : WX) (m : Den) : TE := fun σ H Q => ∃ σd μ ι, Ed G pn σd σ H ι ∧ Sd G μ ι H ∧ Out G W σ ι H (RV G Q) (m σd μ)
def tT (G : Gt) (pn : List (Addr × Obj)) (W : WX) (m : DenT) : TT := fun σ H Q => ∃ σd μ ι, Ed G pn σd σ H ι ∧ Sd G μ ι H ∧ Out G W σ ι H (RB Q) (m σd μ)
def tA (G : Gt) (pn : List (Addr × Obj)) (W : WX) (m : DenA) : TA := fun σ H Q => ∃ σd μ ι, Ed G pn σd σ H ι ∧ Sd G μ ι H ∧ Out G W σ ι H (RA G Q) (m σd μ)
abbrev JE (G : Gt) (X : Cx) (pn : List (Addr × Obj)) (W : WX) (e : Expr) (m : Den) : Prop := PE X e (tE G pn W m)
abbrev JT (G : Gt) (X : Cx) (pn : List (Addr × Obj)) (W : WX) (e : Expr) (m : DenT) : Prop := PT X e (tT G pn W m)
abbrev JW (G : Gt) (X : Cx) (pn : List (Addr × Obj)) (W : WX) (e : Expr) (m : DenT) : Prop := PW X e (tT G pn W m)
abbrev JA (G : Gt) (X : Cx) (pn : List (Addr × Obj)) (W : WX) (es : List Expr) (m : DenA) : Prop := PA X es (tA G pn W m)
section
variable {G : Gt} {X : Cx} {pn : List (Addr × Obj)} {W : WX} {σ : St} {ι : List Addr} {H : Hp} {pins : List (Addr × Obj)} {s : Shared} {σd : Env} {μ : Store} {β : Type} {R : β → List Addr → Hp → Prop}
/-- use an expression's meaning at the head of a sequence -/
theorem JE.use {e : Expr} {m : Den} (h : JE G X pn W e m) (I : Inv X pins σ H s) (ed : Ed G pn σd σ H ι) (sd : Sd G μ ι H) {k : D → M β} (o : Out G W σ ι H R (bnd (m σd) k μ)) :
    wpAny (model X.prog X.w) X.A (eval e X.env) (fun u s1 => ∃ v d μ1 ι1 H1, Inv X pins σ H1 s1 ∧ RelV v u ∧ Rp G H1 ι1 d v ∧ Ext ι H ι1 H1 ∧ Sd G μ1 ι1 H1 ∧ Out G W σ ι1 H1 R (k d μ1)) X.xe s := by
  refine thn (h.run pins s σ H (fun v H1 => ∃ d μ1 ι1, Rp G H1 ι1 d v ∧ Ext ι H ι1 H1 ∧ Sd G μ1 ι1 H1 ∧ Out G W σ ι1 H1 R (k d μ1)) I ⟨σd, μ, ι, ed, sd, o.fst.imp fun d ι' H' ⟨μ', s', x, q⟩ v r => ⟨d, μ', ι', r, x, s', q⟩⟩) fun u s1 ⟨v, H1, I1, r, d, μ1, ι1, q1, q2, q3, q4⟩ => ⟨v, d, μ1, ι1, H1, I1, r, q1, q2, q3, q4⟩
theorem JT.use {e : Expr} {m : DenT} (h : JT G X pn W e m) (I : Inv X pins σ H s) (ed : Ed G pn σd σ H ι) (sd : Sd G μ ι H) {k : Bool → M β} (o : Out G W σ ι H R (bnd (m σd) k μ)) :
    wpAny (model X.prog X.w) X.A (isTrue e X.env (eval e X.env)) (fun b s1 => ∃ μ1 ι1 H1, Inv X pins σ H1 s1 ∧ Ext ι H ι1 H1 ∧ Sd G μ1 ι1 H1 ∧ Out G W σ ι1 H1 R (k b μ1)) X.xe s :=
  thn (h.run pins s σ H (fun b H1 => ∃ μ1 ι1, Ext ι H ι1 H1 ∧ Sd G μ1 ι1 H1 ∧ Out G W σ ι1 H1 R (k b μ1)) I ⟨σd, μ, ι, ed, sd, o.fst.imp fun b ι' H' ⟨μ', s', x, q⟩ => ⟨μ', ι', x, s', q⟩⟩) fun b s1 ⟨H1, I1, μ1, ι1, q1, q2, q3⟩ => ⟨μ1, ι1, H1, I1, q1, q2, q3⟩
theorem JA.use {es : List Expr} {m : DenA} (h : JA G X pn W es m) (pos : Pos) (I : Inv X pins σ H s) (ed : Ed G pn σd σ H ι) (sd : Sd G μ ι H) {k : List D → M β} (o : Out G W σ ι H R (bnd (m σd) k μ)) :
    wpAny (model X.prog X.w) X.A (spliced (backTo pos (starEach es X.env))) (fun us s1 => ∃ vs ds μ1 ι1 H1, Inv X pins σ H1 s1 ∧ Vals vs us ∧ RpL G H1 ι1 ds vs ∧ Ext ι H ι1 H1 ∧ Sd G μ1 ι1 H1 ∧ Out G W σ ι1 H1 R (k ds μ1)) X.xe s :=
  thn (h.run pos pins s σ H (fun vs H1 => ∃ ds μ1 ι1, RpL G H1 ι1 ds vs ∧ Ext ι H ι1 H1 ∧ Sd G μ1 ι1 H1 ∧ Out G W σ ι1 H1 R (k ds μ1)) I ⟨σd, μ, ι, ed, sd, o.fst.imp fun d ι' H' ⟨μ', s', x, q⟩ v r => ⟨d, μ', ι', r, x, s', q⟩⟩) fun u s1 ⟨v, H1, I1, r, d, μ1, ι1, q1, q2, q3, q4⟩ => ⟨v, d, μ1, ι1, H1, I1, r, q1, q2, q3, q4⟩
end
/-- what is used of a context -/
structure Good (G : Gt) (X : Cx) (W : WX) : Prop where
  K : X.K = G.K
  nd : X.N.Nodup
  un : X.A.units + 64 < cLine
  tk : Takes X W

/-! ### operators by values -/
section
variable (G : Gt) (X : Cx) (W : WX)
def V1 (f : Value → Sem Value) (g : D → M D) : Prop := ∀ (pins : List (Addr × Obj)) (s : Shared) (σ : St) (H : Hp) (ι : List Addr) (μ : Store) (d : D) (x : V) (v : Value) (Q : VK),
  Inv X pins σ H s → RelV x v → Rp G H ι d x → Sd G μ ι H → Out G W σ ι H (RV G Q) (g d μ) → wpAny (model X.prog X.w) X.A (f v) (EP X pins σ Q) X.xe s
def V2 (f : Value → Value → Sem Value) (g : D → D → M D) : Prop := ∀ (pins : List (Addr × Obj)) (s : Shared) (σ : St) (H : Hp) (ι : List Addr) (μ : Store) (d e : D) (x y : V) (v u : Value) (Q : VK),
  Inv X pins σ H s → RelV x v → RelV y u → Rp G H ι d x → Rp G H ι e y → Sd G μ ι H → Out G W σ ι H (RV G Q) (g d e μ) → wpAny (model X.prog X.w) X.A (f v u) (EP X pins σ Q) X.xe s
/-- a call of a built-in by values -/
def VC (f : Value) (g : List D → M D) : Prop := ∀ (pins : List (Addr × Obj)) (s : Shared) (σ : St) (H : Hp) (ι : List Addr) (μ : Store) (ds : List D) (xs : List V) (us : List Value) (Q : VK),
  Inv X pins σ H s → Vals xs us → RpL G H ι ds xs → Sd G μ ι H → Out G W σ ι H (RV G Q) (g ds μ) → wpAny (model X.prog X.w) X.A (call f us) (EP X pins σ Q) X.xe s
end
section
variable {G : Gt} {pn : List (Addr × Obj)} {W : WX} {σ : St} {ι : List Addr} {H : Hp} {μ : Store} {Q : VK}
theorem out_ret {d : D} {v : V} (o : Out G W σ ι H (RV G Q) (ret d μ)) (sd : Sd G μ ι H) (r : Rp G H ι d v) : Q v H := o.ret_ sd v r
theorem line_eq : lineN = sizeLine := by rw [sizeLine_eq]; rfl
/-- a new tuple -/
theorem out_newT {xs : List D} {vs : List V} {p : Addr} (o : Out G W σ ι H (RV G Q) (newT xs μ)) (sd : Sd G μ ι H) (r : RpL G H ι xs vs) (hp : H p = none) : Q (.ref p) (upd H p (.tup vs)) := by
  unfold newT at o
  by_cases hz : xs.length ≤ lineN
  · rw [if_pos hz] at o
    exact o ι _ (Ext.laid hp) (sd.laid hp) (.ref p) ⟨p, vs, rfl, SqT.of upd_same, RpL.ext (Ext.laid hp) r⟩
  · rw [if_neg hz] at o
    exact o.elim
theorem newT_len {xs : List D} (o : Out G W σ ι H (RV G Q) (newT xs μ)) : xs.length ≤ sizeLine := by
  unfold newT at o
  by_cases hz : xs.length ≤ lineN
  · rw [← line_eq]; exact hz
  · rw [if_neg hz] at o
    exact o.elim
/-- a tuple that stands -/
theorem out_oldT {xs : List D} {vs : List V} {a : Addr} (o : Out G W σ ι H (RV G Q) (newT xs μ)) (sd : Sd G μ ι H) (r : RpL G H ι xs vs) (ha : SqT G.K H a vs) : Q (.ref a) H := by
  unfold newT at o
  by_cases hz : xs.length ≤ lineN
  · rw [if_pos hz] at o
    exact o ι _ Ext.refl sd (.ref a) ⟨a, vs, rfl, ha, r⟩
  · rw [if_neg hz] at o
    exact o.elim
theorem out_alloc {xs : List D} {vs : List V} {p : Addr} (o : Out G W σ ι H (RV G Q) (alloc (.lst xs) μ)) (sd : Sd G μ ι H) (r : RpL G H ι xs vs) (hp : H p = none) : Q (.ref p) (upd H p (.lst vs)) := by
  obtain ⟨e1, e2, e3⟩ := sd.alloc hp r
  exact o _ _ e1 e2 (.ref p) ⟨p, e3, rfl⟩
theorem out_newL {xs : List D} {vs : List V} {p : Addr} (o : Out G W σ ι H (RV G Q) (newL xs μ)) (sd : Sd G μ ι H) (r : RpL G H ι xs vs) (hp : H p = none) : Q (.ref p) (upd H p (.lst vs)) := by
  unfold newL at o
  by_cases hz : xs.length ≤ lineN
  · rw [if_pos hz] at o
    exact out_alloc o sd r hp
  · rw [if_neg hz] at o
    exact o.elim
theorem newL_len {xs : List D} (o : Out G W σ ι H (RV G Q) (newL xs μ)) : xs.length ≤ sizeLine := by
  unfold newL at o
  by_cases hz : xs.length ≤ lineN
  · rw [← line_eq]; exact hz
  · rw [if_neg hz] at o
    exact o.elim
variable {β : Type} {R : β → List Addr → Hp → Prop}
theorem out_opt {α : Type} {x : Option α} {k : α → M β} (o : Out G W σ ι H R (bnd (optM x) k μ)) : ∃ a, x = some a ∧ Out G W σ ι H R (k a μ) := by
  cases x with
  | none => exact o.elim
  | some a => exact ⟨a, rfl, o⟩
/-- the items of a list that stands -/
theorem out_litems {n : Nat} {k : List D → M β} (o : Out G W σ ι H R (bnd (litems (.loc n)) k μ)) (sd : Sd G μ ι H) {v : V} (r : Rp G H ι (.loc n) v) :
    ∃ a xs vs, v = .ref a ∧ μ[n]? = some (.lst xs) ∧ ι[n]? = some a ∧ H a = some (.lst vs) ∧ RpL G H ι xs vs ∧ Out G W σ ι H R (k xs μ) := by
  obtain ⟨a, h1, rfl⟩ := r
  unfold bnd litems at o
  dsimp only at o
  cases e : μ[n]? with
  | none =>
    rw [e] at o
    exact o.elim
  | some ob =>
    rw [e] at o
    cases ob with
    | dct kvs => exact o.elim
    | lst xs =>
      obtain ⟨vs, h2, h3⟩ := sd.ob n _ a e h1
      exact ⟨a, xs, vs, rfl, rfl, h1, h2, h3, o⟩
/-- the items of a thing -/
theorem out_items {d : D} {k : List D → M β} (o : Out G W σ ι H R (bnd (items d) k μ)) (sd : Sd G μ ι H) {v : V} (r : Rp G H ι d v) :
    ∃ a xs vs, v = .ref a ∧ (SqL G.K H a vs ∨ SqT G.K H a vs) ∧ RpL G H ι xs vs ∧ Out G W σ ι H R (k xs μ) := by
  cases d with
  | tup xs =>
    obtain ⟨a, vs, rfl, h2, h3⟩ := r
    exact ⟨a, xs, vs, rfl, .inr h2, h3, o⟩
  | rol xs =>
    obtain ⟨a, vs, rfl, h2, h3⟩ := r
    exact ⟨a, xs, vs, rfl, .inl h2.sq, h3, o⟩
  | loc n =>
    obtain ⟨a, xs, vs, h1, h2, h3, h4, h5, h6⟩ := out_litems (n := n) (k := k) o sd r
    exact ⟨a, xs, vs, h1, .inl (.inl (.inl h4)), h5, h6⟩
  | non => exact o.elim
  | bl b => exact o.elim
  | int i => exact o.elim
  | str x => exact o.elim
  | exn c fs => exact o.elim
end
section
variable {G : Gt} {X : Cx} {W : WX}
theorem v2_add (g : Good G X W) : V2 G X W (binaryOp .Add) addD := by
  intro pins s σ H ι μ d e x y v u Q I rx ry r1 r2 sd o
  unfold addD at o
  split at o
  · cases r1; cases r2
    exact op_add pins s σ H _ _ v u Q I rx ry ⟨_, _, rfl, rfl, out_ret o sd rfl⟩
  · cases r1; cases r2
    split at o
    · rename_i hz
      exact op_add_str pins s σ H _ _ v u Q I rx ry ⟨_, _, rfl, rfl, by rw [← line_eq]; exact hz, out_ret o sd rfl⟩
    · exact o.elim
  · rename_i xs ys
    obtain ⟨a, vs, rfl, h2, h3⟩ := r1
    obtain ⟨b, ws, rfl, k2, k3⟩ := r2
    refine op_catA pins s σ H _ _ v u Q I rx ry ⟨a, b, vs, ws, rfl, rfl, by rw [g.K]; exact h2, by rw [g.K]; exact k2, ?_, fun e1 => ?_, fun n1 e2 => ?_, fun n1 n2 p hp => ?_⟩
    · have z := newT_len o
      rw [List.length_append] at z
      rw [h3.length, k3.length]
      exact z
    · subst e1
      have := h3.length
      have ex : xs = [] := List.eq_nil_of_length_eq_zero (by simpa using this.symm)
      subst ex
      exact out_oldT o sd k3 k2
    · subst e2
      have := k3.length
      have ex : ys = [] := List.eq_nil_of_length_eq_zero (by simpa using this.symm)
      subst ex
      rw [List.append_nil] at o
      exact out_oldT o sd h3 h2
    · exact out_newT o sd (h3.append k3) hp
  · obtain ⟨a, xs, vs, rfl, e1, e2, h2, h3, o⟩ := out_litems o sd r1
    obtain ⟨b, ys, ws, rfl, f1, f2, k2, k3, o⟩ := out_litems o sd r2
    refine op_cat pins s σ H _ _ v u Q I rx ry ⟨a, b, vs, ws, rfl, rfl, h2, k2, ?_, fun p hp => ?_⟩
    · have z := newL_len o
      rw [List.length_append] at z
      rw [h3.length, k3.length]
      exact z
    · exact out_newL o sd (h3.append k3) hp
  · exact o.elim
theorem v2_sub : V2 G X W (binaryOp .Sub) subD := by
  intro pins s σ H ι μ d e x y v u Q I rx ry r1 r2 sd o
  unfold subD at o
  split at o
  · cases r1; cases r2
    exact op_sub pins s σ H _ _ v u Q I rx ry ⟨_, _, rfl, rfl, out_ret o sd rfl⟩
  · exact o.elim
theorem v2_mul : V2 G X W (binaryOp .Mult) mulD := by
  intro pins s σ H ι μ d e x y v u Q I rx ry r1 r2 sd o
  unfold mulD at o
  split at o
  · cases r1; cases r2
    split at o
    · rename_i hz
      rcases hz with hz | hz | hz
      · exact op_mul pins s σ H _ _ v u Q I rx ry ⟨_, _, rfl, rfl, .inl hz, out_ret o sd rfl⟩
      · exact op_mul pins s σ H _ _ v u Q I rx ry ⟨_, _, rfl, rfl, .inr hz, out_ret o sd rfl⟩
      · exact op_mulW pins s σ H _ _ v u Q I rx ry ⟨_, _, rfl, rfl, hz, out_ret o sd rfl⟩
    · exact o.elim
  · exact o.elim
theorem v2_div : V2 G X W (binaryOp .FloorDiv) divD := by
  intro pins s σ H ι μ d e x y v u Q I rx ry r1 r2 sd o
  unfold divD at o
  split at o
  · cases r1; cases r2
    split at o
    · rename_i hz
      exact op_fdivW pins s σ H _ _ v u Q I rx ry ⟨_, _, rfl, rfl, hz, out_ret o sd rfl⟩
    · split at o
      · rename_i hz
        exact op_fdivN pins s σ H _ _ v u Q I rx ry ⟨_, _, rfl, rfl, hz, out_ret o sd rfl⟩
      · exact o.elim
  · exact o.elim
theorem v2_mod : V2 G X W (binaryOp .Mod) modD := by
  intro pins s σ H ι μ d e x y v u Q I rx ry r1 r2 sd o
  unfold modD at o
  split at o
  · cases r1; cases r2
    split at o
    · rename_i hz
      exact op_mod pins s σ H _ _ v u Q I rx ry ⟨_, _, rfl, rfl, hz, out_ret o sd rfl⟩
    · split at o
      · rename_i hz
        exact op_modN pins s σ H _ _ v u Q I rx ry ⟨_, _, rfl, rfl, hz, out_ret o sd rfl⟩
      · exact o.elim
  · exact o.elim
theorem v2_pow : V2 G X W (binaryOp .Pow) powD := by
  intro pins s σ H ι μ d e x y v u Q I rx ry r1 r2 sd o
  unfold powD at o
  split at o
  · cases r1; cases r2
    split at o
    · rename_i hz
      exact op_pow pins s σ H _ _ v u Q I rx ry ⟨_, _, rfl, rfl, hz, out_ret o sd rfl⟩
    · exact o.elim
  · exact o.elim
theorem v1_neg : V1 G X W (unaryOp .USub) negD := by
  intro pins s σ H ι μ d x v Q I rx r1 sd o
  unfold negD at o
  split at o
  · cases r1
    exact un_neg pins s σ H _ v Q I rx ⟨_, rfl, out_ret o sd rfl⟩
  · exact o.elim
end
/-! ### data at any depth -/
section
variable {G : Gt} {pn : List (Addr × Obj)} {ι : List Addr} {H : Hp} {μ : Store}
mutual
theorem dp_of {l : Nat → Option PyData} (hl : ∀ n p v, l n = some p → Rp G H ι (.loc n) v → Dp G.K H v p) : ∀ {d : D} {p : PyData} {v : V}, toPy l d = some p → Rp G H ι d v → Dp G.K H v p
  | .non, p, v, e, r => by
    simp only [toPy, Option.some.injEq] at e
    subst e
    rw [show v = .non from r]
    exact .non
  | .bl b, p, v, e, r => by
    simp only [toPy, Option.some.injEq] at e
    subst e
    rw [show v = .bl b from r]
    exact .bl b
  | .int i, p, v, e, r => by
    simp only [toPy, Option.some.injEq] at e
    subst e
    rw [show v = .int i from r]
    exact .int i
  | .str x, p, v, e, r => by
    simp only [toPy, Option.some.injEq] at e
    subst e
    rw [show v = .str x from r]
    exact .str x
  | .tup xs, p, v, e, r => by
    obtain ⟨a, vs, rfl, h2, h3⟩ := r
    simp only [toPy] at e
    cases q : toPys l xs with
    | none => rw [q] at e; cases e
    | some ps =>
      rw [q] at e
      cases e
      exact .tup h2 (dps_of hl q h3)
  | .rol xs, p, v, e, r => by
    obtain ⟨a, vs, rfl, h2, h3⟩ := r
    simp only [toPy] at e
    cases q : toPys l xs with
    | none => rw [q] at e; cases e
    | some ps =>
      rw [q] at e
      cases e
      exact .lst h2.sq (dps_of hl q h3)
  | .loc n, p, v, e, r => by
    simp only [toPy] at e
    exact hl n p v e r
  | .exn c fs, p, v, e, r => r.elim
theorem dps_of {l : Nat → Option PyData} (hl : ∀ n p v, l n = some p → Rp G H ι (.loc n) v → Dp G.K H v p) : ∀ {ds : List D} {ps : List PyData} {vs : List V}, toPys l ds = some ps → RpL G H ι ds vs → DpAll G.K H vs ps
  | [], ps, vs, e, r => by
    simp only [toPys, Option.some.injEq] at e
    subst e
    rw [show vs = [] from r]
    exact .nil
  | d :: ds, ps, vs, e, r => by
    obtain ⟨v, q, rfl, h2, h3⟩ := r
    simp only [toPys] at e
    cases e1 : toPy l d with
    | none => rw [e1] at e; cases e
    | some p =>
      rw [e1] at e
      cases e2 : toPys l ds with
      | none => rw [e2] at e; cases e
      | some qs =>
        rw [e2] at e
        cases e
        exact .cons (dp_of hl e1 h2) (dps_of hl e2 h3)
end
theorem lPy_of (sd : Sd G μ ι H) : ∀ k n p v, lPy μ k n = some p → Rp G H ι (.loc n) v → Dp G.K H v p
  | 0, _, _, _, e, _ => by cases e
  | k + 1, n, p, v, e, r => by
    unfold lPy at e
    split at e
    · rename_i xs q
      obtain ⟨a, h1, rfl⟩ := r
      obtain ⟨vs, h2, h3⟩ := sd.ob n _ a q h1
      cases q2 : toPys (lPy μ k) xs with
      | none => rw [q2] at e; cases e
      | some ps =>
        rw [q2] at e
        cases e
        exact .lst (.inl (.inl h2)) (dps_of (lPy_of sd k) q2 h3)
    · cases e
theorem pyOf_ok (sd : Sd G μ ι H) {d : D} {p : PyData} {v : V} (e : pyOf μ d = some p) (r : Rp G H ι d v) : Dp G.K H v p := dp_of (lPy_of sd 4) e r
end
end Mini

set_option Elab.async false
set_option linter.all false
set_option maxRecDepth 100000
set_option maxHeartbeats 4000000
/-! # Mini, part D: comparisons, truth, subscripts, built-ins, methods by values -/
namespace Mini
open PySem PySem.Spec L2
open PyProof.Rows (subscriptTail)

section
variable (G : Gt) (X : Cx) (W : WX)
/-- a comparison by values -/
def VB (f : Value → Value → Sem Value) (g : D → D → M Bool) : Prop := ∀ (pins : List (Addr × Obj)) (s : Shared) (σ : St) (H : Hp) (ι : List Addr) (μ : Store) (d e : D) (x y : V) (v u : Value) (Q : Bool → Hp → Prop),
  Inv X pins σ H s → RelV x v → RelV y u → Rp G H ι d x → Rp G H ι e y → Sd G μ ι H → Out G W σ ι H (RB Q) (g d e μ) → wpAny (model X.prog X.w) X.A (f v u) (EP X pins σ fun z H' => ∃ k, z = .bl k ∧ Q k H') X.xe s
end
section
variable {G : Gt} {X : Cx} {W : WX}
variable {pn : List (Addr × Obj)} {σ : St} {ι : List Addr} {H : Hp} {μ : Store}
theorem intsOf_eq : ∀ {xs : List D} {ns : List Int}, intsOf xs = some ns → xs = ns.map D.int
  | [], ns, e => by
    simp only [intsOf, Option.some.injEq] at e
    subst e
    rfl
  | d :: ds, ns, e => by
    cases d with
    | int i =>
      simp only [intsOf] at e
      cases q : intsOf ds with
      | none => rw [q] at e; cases e
      | some r =>
        rw [q] at e
        cases e
        rw [intsOf_eq q]
        rfl
    | _ => simp [intsOf] at e
theorem intsOf_map (ns : List Int) : intsOf (ns.map D.int) = some ns := by
  induction ns with
  | nil => rfl
  | cons n r ih =>
    show (intsOf (r.map D.int)).map (fun r => n :: r) = _
    rw [ih]
    rfl
theorem blsOf_eq : ∀ {xs : List D} {bs : List Bool}, blsOf xs = some bs → xs = bs.map D.bl
  | [], ns, e => by
    simp only [blsOf, Option.some.injEq] at e
    subst e
    rfl
  | d :: ds, ns, e => by
    cases d with
    | bl i =>
      simp only [blsOf] at e
      cases q : blsOf ds with
      | none => rw [q] at e; cases e
      | some r =>
        rw [q] at e
        cases e
        rw [blsOf_eq q]
        rfl
    | _ => simp [blsOf] at e
theorem blsOf_map (ns : List Bool) : blsOf (ns.map D.bl) = some ns := by
  induction ns with
  | nil => rfl
  | cons n r ih =>
    show (blsOf (r.map D.bl)).map (fun r => n :: r) = _
    rw [ih]
    rfl
theorem RpL.bls : ∀ {bs : List Bool} {vs : List V}, RpL G H ι (bs.map D.bl) vs → vs = bs.map V.bl
  | [], _, h => h
  | n :: ns, _, h => by
    obtain ⟨v, r, rfl, h2, h3⟩ := h
    rw [show v = .bl n from h2, RpL.bls h3]
    rfl
theorem vb_eq (g : Good G X W) : VB G X W (compareOp .Eq) eqB := by
  intro pins s σ H ι μ d e x y v u Q I rx ry r1 r2 sd o
  unfold eqB at o
  cases e1 : pyOf μ d with
  | none => rw [e1] at o; exact o.elim
  | some p =>
    cases e2 : pyOf μ e with
    | none => rw [e1, e2] at o; exact o.elim
    | some q =>
      rw [e1, e2] at o
      dsimp only at o
      split at o
      · rename_i hs
        refine op_eqD g.un pins s σ H x y v u _ I rx ry ⟨p, q, by rw [g.K]; exact pyOf_ok sd e1 r1, by rw [g.K]; exact pyOf_ok sd e2 r2, hs.1, hs.2, _, rfl, ?_⟩
        exact o ι H Ext.refl sd
      · exact o.elim
theorem vb_ne (g : Good G X W) : VB G X W (compareOp .NotEq) (fun a b => bnd (eqB a b) fun c => ret (!c)) := by
  intro pins s σ H ι μ d e x y v u Q I rx ry r1 r2 sd o
  have o2 := o.fst
  unfold eqB at o2
  cases e1 : pyOf μ d with
  | none => rw [e1] at o2; exact o2.elim
  | some p =>
    cases e2 : pyOf μ e with
    | none => rw [e1, e2] at o2; exact o2.elim
    | some q =>
      rw [e1, e2] at o2
      dsimp only at o2
      split at o2
      · rename_i hs
        obtain ⟨μ', s', x', q'⟩ := o2 ι H Ext.refl sd
        refine op_neD g.un pins s σ H x y v u _ I rx ry ⟨p, q, by rw [g.K]; exact pyOf_ok sd e1 r1, by rw [g.K]; exact pyOf_ok sd e2 r2, hs.1, hs.2, _, rfl, ?_⟩
        exact q'.ret_ s'
      · exact o2.elim
theorem vb_int {op : CmpOp} {p : Int → Int → Bool} (rule : OpR X (compareOp op) (rI0 fun i j => .bl (p i j))) : VB G X W (compareOp op) (cmpI p) := by
  intro pins s σ H ι μ d e x y v u Q I rx ry r1 r2 sd o
  unfold cmpI at o
  split at o
  · cases r1; cases r2
    exact rule pins s σ H _ _ v u _ I rx ry ⟨_, _, rfl, rfl, _, rfl, o.ret_ sd⟩
  · exact o.elim
theorem vb_lt (g : Good G X W) : VB G X W (compareOp .Lt) ltB := by
  intro pins s σ H ι μ d e x y v u Q I rx ry r1 r2 sd o
  unfold ltB at o
  split at o
  · cases r1; cases r2
    exact op_lt pins s σ H _ _ v u _ I rx ry ⟨_, _, rfl, rfl, _, rfl, o.ret_ sd⟩
  · rename_i xs ys
    obtain ⟨ns, h1, o⟩ := out_opt o
    obtain ⟨ms, h2, o⟩ := out_opt o
    rw [intsOf_eq h1] at r1
    rw [intsOf_eq h2] at r2
    obtain ⟨a, vs, rfl, k2, k3⟩ := r1
    obtain ⟨b, ws, rfl, l2, l3⟩ := r2
    rw [k3.ints] at k2
    rw [l3.ints] at l2
    exact op_ltT (by have := g.un; omega) pins s σ H _ _ v u _ I rx ry ⟨a, b, ns, ms, rfl, rfl, by rw [g.K]; exact k2, by rw [g.K]; exact l2, _, rfl, o.ret_ sd⟩
  · exact o.elim
theorem flat_v {d : D} {v : V} (f : flatD d = true) (r : Rp G H ι d v) : flatV v = true := by
  cases d <;> simp [flatD] at f <;> (rw [show v = _ from r]; rfl)
theorem flats_v : ∀ {ds : List D} {vs : List V}, ds.all flatD = true → RpL G H ι ds vs → vs.all flatV = true
  | [], _, _, h => by rw [show _ = [] from h]; rfl
  | d :: ds, _, f, h => by
    obtain ⟨v, r, rfl, h2, h3⟩ := h
    rw [List.all_cons, Bool.and_eq_true] at f ⊢
    exact ⟨flat_v f.1 h2, flats_v f.2 h3⟩
theorem eqF_v {a b : D} {x y : V} (fa : flatD a = true) (fb : flatD b = true) (ra : Rp G H ι a x) (rb : Rp G H ι b y) : eqV x y = eqF a b := by
  cases a <;> simp [flatD] at fa <;> cases b <;> simp [flatD] at fb <;> (rw [show x = _ from ra, show y = _ from rb]; rfl)
theorem inV_v {a : D} {x : V} (fa : flatD a = true) (ra : Rp G H ι a x) : ∀ {ds : List D} {vs : List V}, ds.all flatD = true → RpL G H ι ds vs → inV x vs = ds.any fun y => eqF y a
  | [], _, _, h => by rw [show _ = [] from h]; rfl
  | d :: ds, _, f, h => by
    obtain ⟨v, r, rfl, h2, h3⟩ := h
    rw [List.all_cons, Bool.and_eq_true] at f
    show ((v :: r).any fun y => eqV y x) = _
    rw [List.any_cons, List.any_cons, eqF_v f.1 fa h2 ra]
    congr 1
    exact inV_v fa ra f.2 h3
theorem str_one {y : Str} (h : y.length = 1) : y = ⟨#[y.cps.getD 0 0]⟩ := by
  obtain ⟨⟨l⟩⟩ := y
  cases l with
  | nil => simp [Str.length] at h
  | cons a r =>
    cases r with
    | nil => rfl
    | cons b r => simp [Str.length] at h
theorem vb_in (g : Good G X W) : VB G X W (compareOp .In) inB := by
  intro pins s σ H ι μ d e x y v u Q I rx ry r1 r2 sd o
  unfold inB at o
  split at o
  · rename_i z
    split at o
    · rename_i c
      split at o
      · rename_i hl
        rw [show x = .str c from r1] at rx
        rw [show y = .str z from r2] at ry
        refine op_in_sign pins s σ H (.str c) (.str z) v u _ I rx ry ⟨c.cps.getD 0 0, z, by rw [← str_one hl], rfl, _, rfl, o.ret_ sd⟩
      · exact o.elim
    · exact o.elim
  · obtain ⟨a, xs, vs, rfl, h2, h3, o⟩ := out_items o sd r2
    split at o
    · rename_i hf
      refine op_in_seq pins s σ H x _ v u _ I rx ry ⟨a, vs, rfl, by rw [g.K]; exact h2, flat_v hf.1 r1, flats_v hf.2 h3, _, rfl, ?_⟩
      have q := o.ret_ sd
      rw [← inV_v hf.1 r1 hf.2 h3] at q
      exact q
    · exact o.elim
theorem vb_nin (g : Good G X W) : VB G X W (compareOp .NotIn) (fun a b => bnd (inB a b) fun c => ret (!c)) := by
  intro pins s σ H ι μ d e x y v u Q I rx ry r1 r2 sd o
  replace o : Out G W σ ι H (RB Q) (bnd (inB d e) (fun c => ret (!c)) μ) := o
  replace o := o.fst
  unfold inB at o
  split at o
  · rename_i z
    split at o
    · rename_i c
      split at o
      · rename_i hl
        rw [show x = .str c from r1] at rx
        rw [show y = .str z from r2] at ry
        obtain ⟨μ', s', x', q'⟩ := o.ret_ sd
        refine op_notIn_sign pins s σ H (.str c) (.str z) v u _ I rx ry ⟨c.cps.getD 0 0, z, by rw [← str_one hl], rfl, _, rfl, q'.ret_ s'⟩
      · exact o.elim
    · exact o.elim
  · obtain ⟨a, xs, vs, rfl, h2, h3, o⟩ := out_items o sd r2
    split at o
    · rename_i hf
      obtain ⟨μ', s', x', q'⟩ := o.ret_ sd
      refine op_notIn_seq pins s σ H x _ v u _ I rx ry ⟨a, vs, rfl, by rw [g.K]; exact h2, flat_v hf.1 r1, flats_v hf.2 h3, _, rfl, ?_⟩
      have q := q'.ret_ s'
      rw [← inV_v hf.1 r1 hf.2 h3] at q
      exact q
    · exact o.elim
theorem non_iff {d : D} {v : V} (r : Rp G H ι d v) : decide (v = .non) = nonB d := by
  cases d with
  | non => rw [show v = .non from r]; rfl
  | bl b => rw [show v = _ from r]; rfl
  | int b => rw [show v = _ from r]; rfl
  | str b => rw [show v = _ from r]; rfl
  | tup xs => obtain ⟨a, vs, rfl, _⟩ := r; rfl
  | rol xs => obtain ⟨a, vs, rfl, _⟩ := r; rfl
  | loc n => obtain ⟨a, _, rfl⟩ := r; rfl
  | exn c fs => exact r.elim
theorem vb_is : VB G X W (compareOp .Is) isB := by
  intro pins s σ H ι μ d e x y v u Q I rx ry r1 r2 sd o
  unfold isB at o
  split at o
  · cases r2
    refine op_isN pins s σ H x _ v u _ I rx ry ⟨rfl, _, rfl, ?_⟩
    rw [non_iff r1]
    exact o.ret_ sd
  · split at o
    · cases r1; cases r2
      exact op_isBl pins s σ H _ _ v u _ I rx ry ⟨_, _, rfl, rfl, _, rfl, o.ret_ sd⟩
    · exact o.elim
  · exact o.elim
theorem vb_nis : VB G X W (compareOp .IsNot) (fun a b => bnd (isB a b) fun c => ret (!c)) := by
  intro pins s σ H ι μ d e x y v u Q I rx ry r1 r2 sd o
  replace o : Out G W σ ι H (RB Q) (bnd (isB d e) (fun c => ret (!c)) μ) := o
  replace o := o.fst
  unfold isB at o
  split at o
  · cases r2
    obtain ⟨μ', s', x', q'⟩ := o.ret_ sd
    refine op_notN pins s σ H x _ v u _ I rx ry ⟨rfl, _, rfl, ?_⟩
    rw [non_iff r1]
    exact q'.ret_ s'
  · split at o
    · cases r1; cases r2
      obtain ⟨μ', s', x', q'⟩ := o.ret_ sd
      exact op_notBl pins s σ H _ _ v u _ I rx ry ⟨_, _, rfl, rfl, _, rfl, q'.ret_ s'⟩
    · exact o.elim
  · exact o.elim
def copOf : Cop → CmpOp
  | .eq => .Eq | .ne => .NotEq | .lt => .Lt | .le => .LtE | .gt => .Gt | .ge => .GtE | .is => .Is | .nis => .IsNot | .inn => .In | .nin => .NotIn
theorem vb_cmp (g : Good G X W) : ∀ op : Cop, VB G X W (compareOp (copOf op)) (cmpB op)
  | .eq => vb_eq g
  | .ne => vb_ne g
  | .lt => vb_lt g
  | .le => vb_int op_le
  | .gt => vb_int op_gt
  | .ge => vb_int op_ge
  | .is => vb_is
  | .nis => vb_nis
  | .inn => vb_in g
  | .nin => vb_nin g
/-! ### truth -/
theorem tru_of {d : D} {v : V} {Q : Bool → Hp → Prop} (r : Rp G H ι d v) (sd : Sd G μ ι H) (o : Out G W σ ι H (RB Q) (truB d μ)) : ∃ k, TruV G.K v H k ∧ Q k H := by
  have seq : ∀ {d : D}, Rp G H ι d v → Out G W σ ι H (RB Q) (bnd (items d) (fun xs => ret (!xs.isEmpty)) μ) → ∃ k, TruV G.K v H k ∧ Q k H := fun {d} r o => by
    obtain ⟨a, xs, vs, rfl, h2, h3, o⟩ := out_items o sd r
    have e : (!vs.isEmpty) = !xs.isEmpty := by
      have := h3.length
      cases xs <;> cases vs <;> simp_all
    refine ⟨!xs.isEmpty, ?_, o.ret_ sd⟩
    rcases h2 with h2 | h2
    · exact .inl ⟨vs, h2, e.symm⟩
    · exact .inr (.inl ⟨vs, h2, e.symm⟩)
  cases d with
  | bl b =>
    rw [show v = .bl b from r]
    exact ⟨b, rfl, o.ret_ sd⟩
  | non =>
    rw [show v = .non from r]
    exact ⟨false, rfl, o.ret_ sd⟩
  | int i =>
    rw [show v = .int i from r]
    exact ⟨_, rfl, o.ret_ sd⟩
  | str x =>
    unfold truB at o
    dsimp only at o
    split at o
    · rename_i hz
      rw [show v = _ from r]
      exact ⟨_, ⟨by rw [← line_eq]; exact hz, rfl⟩, o.ret_ sd⟩
    · exact o.elim
  | tup xs => exact seq r o
  | rol xs => exact seq r o
  | loc n => exact seq r o
  | exn c fs => exact o.elim
/-! ### subscripts -/
theorem atI_rel {xs : List D} {vs : List V} {i : Int} {d : D} (h : RpL G H ι xs vs) (e : atI xs i = some d) : ∃ v, atI vs i = some v ∧ Rp G H ι d v := by
  unfold atI at e ⊢
  rw [h.length]
  cases q : ixN xs.length i with
  | none => rw [q] at e; cases e
  | some j =>
    rw [q] at e
    exact h.get e
theorem ix_ok (g : Good G X W) (value slice : Expr) {pins : List (Addr × Obj)} {s : Shared} {d e : D} {x y : V} {v u : Value} {Q : VK} (I : Inv X pins σ H s) (rx : RelV x v) (ry : RelV y u) (r1 : Rp G H ι d x) (r2 : Rp G H ι e y) (sd : Sd G μ ι H)
    (o : Out G W σ ι H (RV G Q) (ixD d e μ)) (hs : subscripted slice false v u = operate [v, u] (getItem v u)) : wpAny (model X.prog X.w) X.A (subscriptTail value slice v u) (EP X pins σ Q) X.xe s := by
  unfold ixD at o
  split at o
  · rename_i i
    rw [show y = .int i from r2] at ry
    split at o
    · rename_i z
      rw [show x = .str z from r1] at rx
      split at o
      · rename_i hz
        obtain ⟨c, hc, o⟩ := out_opt o
        exact ix_str value slice pins s σ H (.str z) (.int i) v u Q I rx ry ⟨z, i, c, rfl, rfl, by rw [← line_eq]; exact hz, hc, out_ret o sd rfl⟩ hs
      · exact o.elim
    · obtain ⟨a, xs, vs, rfl, h2, h3, o⟩ := out_items o sd r1
      cases hd : atI xs i with
      | none => rw [hd] at o; exact o.elim
      | some d' =>
        rw [hd] at o
        obtain ⟨w, hw, rw'⟩ := atI_rel h3 hd
        rcases h2 with h2 | h2
        · exact ix_list value slice pins s σ H _ _ v u Q I rx ry ⟨a, vs, i, w, rfl, rfl, by rw [g.K]; exact h2, hw, out_ret o sd rw'⟩ hs
        · exact ix_tup value slice pins s σ H _ _ v u Q I rx ry ⟨a, vs, i, w, rfl, rfl, by rw [g.K]; exact h2, hw, out_ret o sd rw'⟩ hs
  · exact o.elim
theorem RpL.cutL {xs : List D} {vs : List V} (h : RpL G H ι xs vs) (lo hi : Option Int) : RpL G H ι (Mini.cutL xs lo hi) (cutV vs lo hi) := by
  unfold Mini.cutL cutV
  rw [h.length]
  exact (h.drop _).take _
theorem cut_whole {xs : List D} {lo hi : Option Int} (h : HT.sIx xs.length 0 lo = 0 ∧ HT.sIx xs.length xs.length hi = xs.length) : Mini.cutL xs lo hi = xs := by
  unfold Mini.cutL
  rw [h.1, h.2]
  simp
theorem sl_ok (g : Good G X W) : SlR X (fun x lo hi H Q => ∃ d μ ι σ, Rp G H ι d x ∧ Sd G μ ι H ∧ Out G W σ ι H (RV G Q) (slD d lo hi μ)) := by
  intro pins s σ H x v vl vu lo hi sl Q I rx hs pl pu h
  obtain ⟨d, μ, ι, σ', r, sd, o⟩ := h
  unfold slD at o
  split at o
  · rename_i xs
    obtain ⟨a, vs, rfl, h2, h3⟩ := r
    refine sl_tupA pins s σ H _ v vl vu lo hi sl Q I rx hs pl pu ⟨a, vs, rfl, by rw [g.K]; exact h2, fun e => ?_, fun e p hp => ?_⟩
    · rw [h3.length] at e
      rw [cut_whole e] at o
      exact out_ret o sd ⟨a, vs, rfl, h2, h3⟩
    · exact o ι _ (Ext.laid hp) (sd.laid hp) _ ⟨p, _, rfl, SqT.of upd_same, RpL.ext (Ext.laid hp) (h3.cutL lo hi)⟩
  · rename_i z
    rw [show x = .str z from r] at rx
    split at o
    · rename_i hz
      refine sl_str pins s σ H _ v vl vu lo hi sl Q I rx hs pl pu ⟨z, rfl, by rw [← line_eq]; exact hz, out_ret o sd ?_⟩
      show V.str (cutS z lo hi) = V.str _
      unfold cutS Mini.cutL
      rw [show z.length = z.cps.toList.length by simp [Str.length]]
    · exact o.elim
  · obtain ⟨a, vs, rfl, h2, h3⟩ := r
    exact sl_list pins s σ H _ v vl vu lo hi sl Q I rx hs pl pu ⟨a, vs, rfl, by rw [g.K]; exact h2.sq, fun p hp => out_alloc o sd (h3.cutL lo hi) hp⟩
  · obtain ⟨a, xs, vs, rfl, e1, e2, h2, h3, o⟩ := out_litems o sd r
    exact sl_list pins s σ H _ v vl vu lo hi sl Q I rx hs pl pu ⟨a, vs, rfl, .inl (.inl h2), fun p hp => out_alloc o sd (h3.cutL lo hi) hp⟩
  · exact o.elim
/-- o[i] = v -/
theorem set_ok {pins : List (Addr × Obj)} {s : Shared} {d e f : D} {x y z : V} {ov iv u : Value} {R : Unit → List Addr → Hp → Prop} (I : Inv X pins σ H s) (ro : RelV x ov) (ri : RelV y iv) (ru : RelV z u) (r1 : Rp G H ι d x) (r2 : Rp G H ι e y) (r3 : Rp G H ι f z) (sd : Sd G μ ι H)
    (o : Out G W σ ι H R (setD d e f μ)) : wpAny (model X.prog X.w) X.A (setItem ov iv u) (fun _ s' => ∃ ι' H', Inv X pins σ H' s' ∧ Ext ι H ι' H' ∧ R () ι' H') X.xe s := by
  unfold setD at o
  split at o
  · rename_i k
    split at o
    · rename_i n
      obtain ⟨a, xs, vs, rfl, e1, h1, h2, h3, o⟩ := out_litems o sd r1
      obtain ⟨j, hj, o⟩ := out_opt o
      obtain ⟨ex, sd'⟩ := sd.write e1 h1 h2 (h3.set j r3)
      rw [show y = .int k from r2] at ri
      refine thn (set_list pins s σ H (.ref a) (.int k) z ov iv u (fun H' => H' = upd H a (.lst (vs.set j z))) I ro ri ru ⟨a, vs, k, j, rfl, rfl, h2, by rw [h3.length]; exact hj, rfl⟩) fun _ s' ⟨H', I', e'⟩ => ?_
      subst e'
      exact ⟨ι, _, I', ex, o _ _ ex sd'⟩
    · exact o.elim
  · exact o.elim
end
end Mini

set_option Elab.async false
set_option linter.all false
set_option maxRecDepth 100000
set_option maxHeartbeats 4000000
/-! # Mini, part E: built-in functions, methods, isinstance by values -/
namespace Mini
open PySem PySem.Spec L2

section
variable {G : Gt} {X : Cx} {W : WX} {σ : St} {ι : List Addr} {H : Hp} {μ : Store} {pn : List (Addr × Obj)}
theorem rpl1 {d : D} {xs : List V} (h : RpL G H ι [d] xs) : ∃ v, xs = [v] ∧ Rp G H ι d v := by
  obtain ⟨v, r, rfl, h2, h3⟩ := h
  exact ⟨v, by rw [show r = [] from h3], h2⟩
theorem rpl2 {d e : D} {xs : List V} (h : RpL G H ι [d, e] xs) : ∃ v w, xs = [v, w] ∧ Rp G H ι d v ∧ Rp G H ι e w := by
  obtain ⟨v, r, rfl, h2, h3⟩ := h
  obtain ⟨w, rfl, h4⟩ := rpl1 h3
  exact ⟨v, w, rfl, h2, h4⟩
theorem vc_len (g : Good G X W) : VC G X W (.builtin "len") bLen := by
  intro pins s σ H ι μ ds xs us Q I rv rp sd o
  unfold bLen at o
  split at o
  · rename_i x
    obtain ⟨v, rfl, hv⟩ := rpl1 rp
    rw [show v = .str x from hv] at rv
    split at o
    · rename_i hz
      exact call_len_str pins s σ H _ us Q I rv ⟨x, rfl, by rw [← line_eq]; exact hz, out_ret o sd rfl⟩
    · exact o.elim
  · obtain ⟨v, rfl, hv⟩ := rpl1 rp
    obtain ⟨a, ys, vs, rfl, h2, h3, o⟩ := out_items o sd hv
    refine call_len_seq pins s σ H _ us Q I rv ⟨a, vs, rfl, by rw [g.K]; exact h2, ?_⟩
    rw [h3.length]
    exact out_ret o sd rfl
  · exact o.elim
theorem vc_abs : VC G X W (.builtin "abs") bAbs := by
  intro pins s σ H ι μ ds xs us Q I rv rp sd o
  unfold bAbs at o
  split at o
  · obtain ⟨v, rfl, hv⟩ := rpl1 rp
    cases hv
    exact call_abs pins s σ H _ us Q I rv ⟨_, rfl, out_ret o sd rfl⟩
  · exact o.elim
theorem vc_int : VC G X W (.type "int") bInt := by
  intro pins s σ H ι μ ds xs us Q I rv rp sd o
  unfold bInt at o
  split at o
  · obtain ⟨v, rfl, hv⟩ := rpl1 rp
    cases hv
    exact call_int1 pins s σ H _ us Q I rv (.inl ⟨_, rfl, out_ret o sd rfl⟩)
  · obtain ⟨v, rfl, hv⟩ := rpl1 rp
    cases hv
    exact call_int1 pins s σ H _ us Q I rv (.inr ⟨_, rfl, out_ret o sd rfl⟩)
  · exact o.elim
theorem vc_min (hc : X.calm = true) : VC G X W (.builtin "min") bMin := by
  intro pins s σ H ι μ ds xs us Q I rv rp sd o
  unfold bMin at o
  split at o
  · obtain ⟨v, w, rfl, hv, hw⟩ := rpl2 rp
    cases hv
    cases hw
    exact call_min2 hc pins s σ H _ us Q I rv ⟨_, _, rfl, out_ret o sd rfl⟩
  · exact o.elim
theorem vc_max (hc : X.calm = true) : VC G X W (.builtin "max") bMax := by
  intro pins s σ H ι μ ds xs us Q I rv rp sd o
  unfold bMax at o
  split at o
  · obtain ⟨v, w, rfl, hv, hw⟩ := rpl2 rp
    cases hv
    cases hw
    exact call_max2 hc pins s σ H _ us Q I rv ⟨_, _, rfl, out_ret o sd rfl⟩
  · exact o.elim
/-- a built-in function of a list's items -/
def VS (G : Gt) (X : Cx) (W : WX) (f : Value) (g : List D → M D) : Prop := ∀ (pins : List (Addr × Obj)) (s : Shared) (σ : St) (H : Hp) (ι : List Addr) (μ : Store) (ds : List D) (vs : List V) (a : Addr) (us : List Value) (Q : VK),
  Inv X pins σ H s → Vals [V.ref a] us → SqL G.K H a vs → RpL G H ι ds vs → Sd G μ ι H → Out G W σ ι H (RV G Q) (g ds μ) → wpAny (model X.prog X.w) X.A (call f us) (EP X pins σ Q) X.xe s
theorem vs_sum (g : Good G X W) (hc : X.calm = true) : VS G X W (.builtin "sum") bSumI := by
  intro pins s σ H ι μ ds vs a us Q I rv hs rp sd o
  obtain ⟨ns, hn, o⟩ := out_opt o
  rw [intsOf_eq hn] at rp
  rw [rp.ints] at hs
  exact cr_sum hc pins s σ H _ us Q I rv ⟨a, ns, rfl, by rw [g.K]; exact hs, out_ret o sd rfl⟩
theorem vs_all (g : Good G X W) (hc : X.calm = true) : VS G X W (.builtin "all") bAllI := by
  intro pins s σ H ι μ ds vs a us Q I rv hs rp sd o
  obtain ⟨ns, hn, o⟩ := out_opt o
  rw [blsOf_eq hn] at rp
  rw [rp.bls] at hs
  exact cr_all hc pins s σ H _ us Q I rv ⟨a, ns, rfl, by rw [g.K]; exact hs, out_ret o sd rfl⟩
theorem vs_any (g : Good G X W) (hc : X.calm = true) : VS G X W (.builtin "any") bAnyI := by
  intro pins s σ H ι μ ds vs a us Q I rv hs rp sd o
  obtain ⟨ns, hn, o⟩ := out_opt o
  rw [blsOf_eq hn] at rp
  rw [rp.bls] at hs
  exact cr_any hc pins s σ H _ us Q I rv ⟨a, ns, rfl, by rw [g.K]; exact hs, out_ret o sd rfl⟩
theorem vs_tuple (g : Good G X W) : VS G X W (.type "tuple") newT := by
  intro pins s σ H ι μ ds vs a us Q I rv hs rp sd o
  exact call_tuple_of pins s σ H _ us Q I rv ⟨a, vs, rfl, .inl ⟨by rw [g.K]; exact hs, fun p hp => out_newT o sd rp hp⟩⟩
theorem vs_list (g : Good G X W) : VS G X W (.type "list") newL := by
  intro pins s σ H ι μ ds vs a us Q I rv hs rp sd o
  exact call_list_of pins s σ H _ us Q I rv ⟨a, vs, rfl, .inl (by rw [g.K]; exact hs), fun p hp => out_newL o sd rp hp⟩
theorem vs_len (g : Good G X W) : VS G X W (.builtin "len") (fun xs => ret (.int xs.length)) := by
  intro pins s σ H ι μ ds vs a us Q I rv hs rp sd o
  refine call_len_seq pins s σ H _ us Q I rv ⟨a, vs, rfl, .inl (by rw [g.K]; exact hs), ?_⟩
  rw [rp.length]
  exact out_ret o sd rfl
/-- the items of a list, to a function of them -/
def ofL (g : List D → M D) : List D → M D := fun ds => match ds with
  | [d] => bnd (litems d) g
  | _ => stk
theorem out_lit {d : D} {β : Type} {R : β → List Addr → Hp → Prop} {k : List D → M β} (o : Out G W σ ι H R (bnd (litems d) k μ)) (sd : Sd G μ ι H) {v : V} (r : Rp G H ι d v) :
    ∃ a xs vs, v = .ref a ∧ SqL G.K H a vs ∧ RpL G H ι xs vs ∧ Out G W σ ι H R (k xs μ) := by
  cases d with
  | rol xs =>
    obtain ⟨a, vs, rfl, h2, h3⟩ := r
    exact ⟨a, xs, vs, rfl, h2.sq, h3, o⟩
  | loc n =>
    obtain ⟨a, xs, vs, h1, h2, h3, h4, h5, h6⟩ := out_litems (n := n) (k := k) o sd r
    exact ⟨a, xs, vs, h1, .inl (.inl h4), h5, h6⟩
  | tup xs => exact o.elim
  | non => exact o.elim
  | bl b => exact o.elim
  | int i => exact o.elim
  | str x => exact o.elim
  | exn c fs => exact o.elim
theorem VS.vc {f : Value} {g : List D → M D} (h : VS G X W f g) : VC G X W f (ofL g) := by
  intro pins s σ H ι μ ds xs us Q I rv rp sd o
  unfold ofL at o
  split at o
  · obtain ⟨v, rfl, hv⟩ := rpl1 rp
    obtain ⟨a, ys, vs, rfl, h2, h3, o⟩ := out_lit o sd hv
    exact h pins s σ H ι μ ys vs a us Q I rv h2 h3 sd o
  · exact o.elim
/-- tuple(x), list(x): of a list or a tuple -/
theorem vc_tuple (g : Good G X W) : VC G X W (.type "tuple") (ofItems newT) := by
  intro pins s σ H ι μ ds xs us Q I rv rp sd o
  unfold ofItems at o
  split at o
  · obtain ⟨v, rfl, hv⟩ := rpl1 rp
    obtain ⟨a, ys, vs, rfl, h2, h3, o⟩ := out_items o sd hv
    rcases h2 with h2 | h2
    · exact vs_tuple g pins s σ H ι μ ys vs a us Q I rv h2 h3 sd o
    · exact call_tuple_of pins s σ H _ us Q I rv ⟨a, vs, rfl, .inr ⟨by rw [g.K]; exact h2, out_oldT o sd h3 h2⟩⟩
  · exact o.elim
theorem vc_list (g : Good G X W) : VC G X W (.type "list") (ofItems newL) := by
  intro pins s σ H ι μ ds xs us Q I rv rp sd o
  unfold ofItems at o
  split at o
  · obtain ⟨v, rfl, hv⟩ := rpl1 rp
    obtain ⟨a, ys, vs, rfl, h2, h3, o⟩ := out_items o sd hv
    exact call_list_of pins s σ H _ us Q I rv ⟨a, vs, rfl, by rw [g.K]; exact h2, fun p hp => out_newL o sd h3 hp⟩
  · exact o.elim

/-! ### methods -/
/-- a method by its name: what c lets through has it, and g says what it does -/
def VM (G : Gt) (X : Cx) (W : WX) (name : Str) (c : D → M Unit) (f : D → List D → M D) : Prop :=
  ∀ (pins : List (Addr × Obj)) (s : Shared) (σ : St) (H : Hp) (ι : List Addr) (μ : Store) (d : D) (x : V) (v : Value), Inv X pins σ H s → RelV x v → Rp G H ι d x → Sd G μ ι H →
    (∃ μ', c d μ = .ok () μ') → ∃ T id, PlainAttrs T ∧ Slot T name id ∧ typeOf (.builtin id) = pure (.type "method_descriptor") ∧ tyV X.K T x H ∧
      ∀ (pins : List (Addr × Obj)) (s : Shared) (H' : Hp) (ι' : List Addr) (μ' : Store) (ds : List D) (xs : List V) (us : List Value) (Q : VK),
        Inv X pins σ H' s → Vals xs us → Rp G H' ι' d x → RpL G H' ι' ds xs → Sd G μ' ι' H' → Out G W σ ι' H' (RV G Q) (f d ds μ') → wpAny (model X.prog X.w) X.A (call (.builtin id) (v :: us)) (EP X pins σ Q) X.xe s
theorem isLst_at {d : D} {μ' : Store} (e : isLst d μ = .ok () μ') : ∃ n xs, d = .loc n ∧ μ[n]? = some (.lst xs) ∧ μ' = μ := by
  cases d with
  | loc n =>
    unfold isLst bnd litems at e
    dsimp only at e
    cases q : μ[n]? with
    | none => rw [q] at e; cases e
    | some ob =>
      rw [q] at e
      cases ob with
      | dct kvs => cases e
      | lst xs =>
        cases e
        exact ⟨n, xs, rfl, q, rfl⟩
  | _ => cases e
theorem lst_ty (g : Good G X W) {n : Nat} {xs : List D} {x : V} (h : μ[n]? = some (.lst xs)) (r : Rp G H ι (.loc n) x) (sd : Sd G μ ι H) : tyV X.K "list" x H := by
  obtain ⟨a, h1, rfl⟩ := r
  obtain ⟨vs, h2, h3⟩ := sd.ob n _ a h h1
  exact .inl ⟨rfl, vs, .inl (.inl h2)⟩
theorem vm_append (g : Good G X W) : VM G X W "append" isLst mAppend := by
  intro pins s σ H ι μ d x v I rx r sd ⟨μ', e⟩
  obtain ⟨n, xs, rfl, hx, rfl⟩ := isLst_at e
  refine ⟨"list", "list.append", PySem.F.plainAttrs_list, PySem.F.slot_list_append, PySem.F.type_list_append, lst_ty g hx r sd, fun pins s H ι μ ds ws us Q I rv r rl sd o => ?_⟩
  match ds, rl, o with
  | [], _, o => exact o.elim
  | _ :: _ :: _, _, o => exact o.elim
  | [y0], rl, o =>
    have o : Out G W σ ι H (RV G Q) (bnd (litems (.loc n)) (fun xs => if xs.length < lineN then bnd (wr n (xs ++ [y0])) fun _ => ret .non else stk) μ) := o
    obtain ⟨y, rfl, hy⟩ := rpl1 rl
    obtain ⟨a, ys, vs, rfl, k1, k2, k3, k4, o⟩ := out_litems o sd r
    split at o
    · rename_i hz
      obtain ⟨ex, sd'⟩ := sd.write k1 k2 k3 (k4.append (RpL.one hy))
      refine mt_append pins s σ H _ _ v us Q I rx rv ⟨a, vs, y, rfl, rfl, k3, by rw [k4.length, ← line_eq]; exact hz, ?_⟩
      exact o ι _ ex sd' _ rfl
    · exact o.elim
theorem vm_pop (g : Good G X W) : VM G X W "pop" isLst mPop := by
  intro pins s σ H ι μ d x v I rx r sd ⟨μ', e⟩
  obtain ⟨n, xs, rfl, hx, rfl⟩ := isLst_at e
  refine ⟨"list", "list.pop", PySem.F.plainAttrs_list, PySem.F.slot_list_pop, PySem.F.type_list_pop, lst_ty g hx r sd, fun pins s H ι μ ds ws us Q I rv r rl sd o => ?_⟩
  match ds, rl, o with
  | .non :: _, _, o => exact o.elim
  | .bl _ :: _, _, o => exact o.elim
  | .str _ :: _, _, o => exact o.elim
  | .tup _ :: _, _, o => exact o.elim
  | .rol _ :: _, _, o => exact o.elim
  | .loc _ :: _, _, o => exact o.elim
  | .exn _ _ :: _, _, o => exact o.elim
  | .int _ :: _ :: _, _, o => exact o.elim
  | [], rl, o =>
    have o : Out G W σ ι H (RV G Q) (bnd (litems (.loc n)) (fun xs => bnd (optM xs[xs.length - 1]?) fun y => bnd (wr n xs.dropLast) fun _ => ret y) μ) := o
    obtain ⟨a, ys, vs, rfl, k1, k2, k3, k4, o⟩ := out_litems o sd r
    obtain ⟨y, hy, o⟩ := out_opt o
    obtain ⟨w, hw, rw'⟩ := k4.get hy
    have e2 : ys.dropLast = ys.take (ys.length - 1) := List.dropLast_eq_take
    have e3 : vs.dropLast = vs.take (ys.length - 1) := by rw [List.dropLast_eq_take, k4.length]
    have k5 : RpL G H ι ys.dropLast vs.dropLast := by rw [e2, e3]; exact k4.take _
    obtain ⟨ex, sd'⟩ := sd.write k1 k2 k3 k5
    refine mt_pop pins s σ H _ _ v us Q I rx rv ⟨a, vs, w, rfl, by rw [show ws = [] from rl], k3, by rw [k4.length]; exact hw, ?_⟩
    exact o ι _ ex sd' _ (Rp.ext ex rw')
  | [.int i], rl, o =>
    have o : Out G W σ ι H (RV G Q) (bnd (litems (.loc n)) (fun xs => if 0 ≤ i ∧ i < xs.length ∧ i < 2 ^ 63 then bnd (optM xs[i.toNat]?) fun y => bnd (wr n (xs.eraseIdx i.toNat)) fun _ => ret y else stk) μ) := o
    obtain ⟨iv, rfl, hi⟩ := rpl1 rl
    obtain ⟨a, ys, vs, rfl, k1, k2, k3, k4, o⟩ := out_litems o sd r
    split at o
    · rename_i hz
      obtain ⟨y, hy, o⟩ := out_opt o
      obtain ⟨w, hw, rw'⟩ := k4.get hy
      have er : ∀ {ds : List D} {vs : List V} (k : Nat), RpL G H ι ds vs → RpL G H ι (ds.eraseIdx k) (vs.eraseIdx k) := fun {ds vs} k h => by
        rw [List.eraseIdx_eq_take_drop_succ, List.eraseIdx_eq_take_drop_succ]
        exact (h.take k).append (h.drop (k + 1))
      obtain ⟨ex, sd'⟩ := sd.write k1 k2 k3 (er i.toNat k4)
      refine mt_popAt pins s σ H _ _ v us Q I rx rv ⟨a, vs, i, i.toNat, w, rfl, by rw [show iv = .int i from hi], k3, by omega, hz.2.2, ?_, hw, ?_⟩
      · rw [k4.length]
        exact (ixN_seq (n := ys.length) (i := i) (j := i.toNat) (by unfold ixN; rw [if_pos hz.1, if_pos hz.2.1])).1
      · exact o ι _ ex sd' _ (Rp.ext ex rw')
    · exact o.elim

/-! ### isinstance -/
def tyVal (G : Gt) : Ty → Value
  | .int => .type "int" | .bool => .type "bool" | .str => .type "str" | .tup => .type "tuple" | .lst => .type "list" | .dct => .type "dict" | .verr => .type "ValueError" | .exc c => .ref (G.excA c)
def tyV' (G : Gt) : Ty → V
  | .int => .ty "int" | .bool => .ty "bool" | .str => .ty "str" | .tup => .ty "tuple" | .lst => .ty "list" | .dct => .ty "dict" | .verr => .ty "ValueError" | .exc c => .ref (G.excA c)
theorem tyV_rel (t : Ty) : RelV (tyV' G t) (tyVal G t) := by
  cases t <;> rfl
theorem tyV_cls (t : Ty) : ClsV (tyV' G t) (tyVal G t) := by
  cases t <;> first | exact .ty _ | exact .own _
def kdName : Kd → String
  | .non => "NoneType" | .bl => "bool" | .int => "int" | .str => "str" | .tup => "tuple" | .lst => "list" | .dct => "dict"
theorem kd_kit {K : PySem.W.Frag} {k : Kd} {t : Ty} {b : Bool} (h : kdIs k t = some b) : PySem.W.kitOne K (.type (kdName k)) (tyVal G t) = some b := by
  cases k <;> cases t <;> simp [kdIs] at h <;> subst h <;> exact kit_ty (by decide +kernel)
theorem kd_any {K : PySem.W.Frag} {k : Kd} : ∀ {ts : List Ty} {b : Bool}, kdAny k ts = some b → PySem.W.kitAny K (.type (kdName k)) (ts.map (tyVal G)) = some b
  | [], b, h => by
    cases h
    rfl
  | t :: ts, b, h => by
    unfold kdAny at h
    cases q : kdIs k t with
    | none => rw [q] at h; cases h
    | some c =>
      rw [q] at h
      refine kitAny_cons (kd_kit q) (fun hc => ?_) fun hc => ?_
      · subst hc
        exact kd_any h
      · subst hc
        cases h
        rfl
theorem kd_of (g : Good G X W) {d : D} {v : V} {k : Kd} (h : kdOf μ d = some k) (r : Rp G H ι d v) (sd : Sd G μ ι H) : TyX X.K H v (.type (kdName k)) := by
  cases d with
  | exn c fs => exact r.elim
  | non =>
    cases h
    rw [show v = .non from r]
    exact .base .non
  | bl x =>
    cases h
    rw [show v = .bl x from r]
    exact .base (.bl x)
  | int x =>
    cases h
    rw [show v = .int x from r]
    exact .base (.int x)
  | str x =>
    cases h
    rw [show v = .str x from r]
    exact .base (.str x)
  | tup xs =>
    cases h
    obtain ⟨a, vs, rfl, h2, h3⟩ := r
    rw [g.K]
    rcases h2 with (h | ⟨ob, h⟩) | ⟨ob, its, n, h, hc, _⟩
    · exact .base (.tup h)
    · exact .fTuple h
    · exact .kTuple h hc
  | rol xs =>
    cases h
    obtain ⟨a, vs, rfl, h2, h3⟩ := r
    rw [g.K]
    rcases h2 with ⟨ob, h⟩ | ⟨ob, its, n, h, hc, _⟩
    · exact .base (.frz h)
    · exact .kList h hc
  | loc n =>
    obtain ⟨a, h1, rfl⟩ := r
    unfold kdOf at h
    dsimp only at h
    cases q : μ[n]? with
    | none => rw [q] at h; cases h
    | some ob =>
      rw [q] at h
      cases ob with
      | lst xs =>
        cases h
        obtain ⟨vs, k1, _⟩ := sd.ob n _ a q h1
        exact .base (.lst k1)
      | dct kvs => exact (sd.ob n _ a q h1).elim
end
end Mini

set_option Elab.async false
set_option linter.all false
set_option maxRecDepth 100000
set_option maxHeartbeats 4000000
/-! # Mini, part F: expressions and tests -/
namespace Mini
open PySem PySem.Spec L2
open PyProof.Rows (isTrue_plain isTrue_and isTrue_or isTrue_and_nil isTrue_or_nil isTrue_not BoolOp_and BoolOp_or BoolOp_one UnaryOp_ not_of Subscript_ Call_ Constant_bool Constant_none Compare_chain isTrue_chain chain_link chain_last test_link test_last ite_tt ite_ff)

section
variable {G : Gt} {X : Cx} {W : WX} {pn : List (Addr × Obj)}
/-- an expression whose meaning is the machine's: from the state to the wish -/
theorem je_mk {e : Expr} {m : Den} (h : ∀ (pins : List (Addr × Obj)) (s : Shared) (σ : St) (H : Hp) (ι : List Addr) (μ : Store) (σd : Env) (Q : VK), Inv X pins σ H s → Ed G pn σd σ H ι → Sd G μ ι H → Out G W σ ι H (RV G Q) (m σd μ) → wpAny (model X.prog X.w) X.A (eval e X.env) (EP X pins σ Q) X.xe s) : JE G X pn W e m :=
  ⟨fun pins s σ H Q I ⟨σd, μ, ι, ed, sd, o⟩ => h pins s σ H ι μ σd Q I ed sd o⟩
theorem je_te {e : Expr} {m : Den} {t : TE} (h : PE X e t) (k : ∀ (pins : List (Addr × Obj)) (s : Shared) (σ : St) (H : Hp) (ι : List Addr) (μ : Store) (σd : Env) (Q : VK), Inv X pins σ H s → Ed G pn σd σ H ι → Sd G μ ι H → Out G W σ ι H (RV G Q) (m σd μ) → t σ H Q) : JE G X pn W e m :=
  je_mk fun pins s σ H ι μ σd Q I ed sd o => h.run pins s σ H Q I (k pins s σ H ι μ σd Q I ed sd o)
theorem je_var {i : Nat} {x : Str} {pos : Pos} (hN : X.N[i]? = some x) (hv : Vis X.env.scope x) (hd : (x == ("__debug__" : Str)) = false) (hcd : (x == ("__classdict__" : Str)) = false) : JE G X pn W (.Name x pos) (cVar i) :=
  je_te (pe_var hN hv hd hcd) fun pins s σ H ι μ σd Q I ed sd o => by
    unfold cVar at o
    cases e : σd[i]? with
    | none => rw [e] at o; exact o.elim
    | some y =>
      rw [e] at o
      cases y with
      | none => exact o.elim
      | some d =>
        obtain ⟨v, h1, h2 | ⟨c, fs, _, _, _, rfl, _⟩⟩ := ed.2 i d e
        · refine ⟨v, h1, ?_⟩
          cases d with
          | exn c fs => exact h2.elim
          | _ => exact out_ret o sd h2
        · exact o.elim
theorem je_int {i j pos} : JE G X pn W (.Constant (.int i) j pos) (cK (.int i)) := je_te pe_int fun _ _ _ _ _ _ _ _ _ _ sd o => out_ret o sd rfl
theorem je_bl {i j pos} : JE G X pn W (.Constant (.bool i) j pos) (cK (.bl i)) := je_te pe_bl fun _ _ _ _ _ _ _ _ _ _ sd o => out_ret o sd rfl
theorem je_non {j pos} : JE G X pn W (.Constant .none j pos) (cK .non) := je_te pe_non fun _ _ _ _ _ _ _ _ _ _ sd o => out_ret o sd rfl
theorem je_str {i j pos} : JE G X pn W (.Constant (.str i) j pos) (cK (.str i)) := je_te pe_str fun _ _ _ _ _ _ _ _ _ _ sd o => out_ret o sd rfl
theorem je_glob {x : Str} {d : D} {v : V} {u : Value} {pos : Pos} (hg : Gl X x) (hm : X.mg x = some u) (r : RelV v u) (hr : ∀ H ι, Rp G H ι d v) (hd : (x == ("__debug__" : Str)) = false) : JE G X pn W (.Name x pos) (cK d) :=
  je_te (pe_glob hg hm r hd) fun _ _ _ _ _ _ _ _ _ _ sd o => out_ret o sd (hr _ _)
variable {a b c : Expr} {ma mb mc : Den} {pos : Pos}
theorem je_bin {op : Operator} {f : D → D → M D} (hf : V2 G X W (binaryOp op) f) (ha : JE G X pn W a ma) (hb : JE G X pn W b mb) : JE G X pn W (.BinOp a op b pos) (c2 f ma mb) :=
  je_mk fun pins s σ H ι μ σd Q I ed sd o => by
    refine wpAny_BinOp (thn (ha.use I ed sd o) fun v s1 ⟨x, d, μ1, ι1, H1, I1, r1, p1, x1, sd1, o1⟩ => ?_)
    refine thn (hb.use I1 (ed.ext x1) sd1 o1) fun u s2 ⟨y, e, μ2, ι2, H2, I2, r2, p2, x2, sd2, o2⟩ => ?_
    exact hf pins s2 σ H2 ι2 μ2 d e x y v u Q I2 r1 r2 (Rp.ext x2 p1) p2 sd2 o2
theorem je_un {op : UnaryOp} {f : D → M D} (hf : V1 G X W (unaryOp op) f) (ha : JE G X pn W a ma) (hne : op ≠ .Not) : JE G X pn W (.UnaryOp op a pos) (c1 f ma) :=
  je_mk fun pins s σ H ι μ σd Q I ed sd o => by
    refine UnaryOp_ (thn (ha.use I ed sd o) fun v s1 ⟨x, d, μ1, ι1, H1, I1, r1, p1, x1, sd1, o1⟩ => ?_)
    exact hf pins s1 σ H1 ι1 μ1 d x v Q I1 r1 p1 sd1 o1
theorem je_cmp {op : Cop} (g : Good G X W) (ha : JE G X pn W a ma) (hb : JE G X pn W b mb) (hm : behindInMarks (copOf op) b = false) : JE G X pn W (.Compare a [copOf op] [b] pos) (cCmp op ma mb) :=
  je_mk fun pins s σ H ι μ σd Q I ed sd o => by
    refine wpAny_Compare1 (thn (ha.use I ed sd o) fun v s1 ⟨x, d, μ1, ι1, H1, I1, r1, p1, x1, sd1, o1⟩ => ?_) hm
    refine thn (hb.use I1 (ed.ext x1) sd1 o1) fun u s2 ⟨y, e, μ2, ι2, H2, I2, r2, p2, x2, sd2, o2⟩ => ?_
    refine thn (vb_cmp g op pins s2 σ H2 ι2 μ2 d e x y v u (fun k H' => Q (.bl k) H') I2 r1 r2 (Rp.ext x2 p1) p2 sd2 (o2.fst.imp fun k ι' H' ⟨μ', s', x', q⟩ => out_ret q s' rfl)) fun z s3 ⟨w, H3, I3, r3, k, e3, q3⟩ => ?_
    subst e3
    exact ⟨.bl k, H3, I3, r3, q3⟩
theorem jt_cmp {op : Cop} (g : Good G X W) (ha : JE G X pn W a ma) (hb : JE G X pn W b mb) (hm : behindInMarks (copOf op) b = false) : JT G X pn W (.Compare a [copOf op] [b] pos) (tCmp op ma mb) :=
  ⟨fun pins s σ H Q I ⟨σd, μ, ι, ed, sd, o⟩ => by
    refine wpAny_isTrue_Compare1 (thn (ha.use I ed sd o) fun v s1 ⟨x, d, μ1, ι1, H1, I1, r1, p1, x1, sd1, o1⟩ => ?_) hm
    refine thn (hb.use I1 (ed.ext x1) sd1 o1) fun u s2 ⟨y, e, μ2, ι2, H2, I2, r2, p2, x2, sd2, o2⟩ => ?_
    refine thn (vb_cmp g op pins s2 σ H2 ι2 μ2 d e x y v u Q I2 r1 r2 (Rp.ext x2 p1) p2 sd2 o2) fun z s3 ⟨w, H3, I3, r3, k, e3, q3⟩ => ?_
    subst e3
    cases r3
    exact wpAny_truthy_bool ⟨H3, I3, q3⟩⟩
theorem chn_ok {op : Cop} (g : Good G X W) {β : Type} {R : β → List Addr → Hp → Prop} {pins : List (Addr × Obj)} {s : Shared} {σ : St} {H : Hp} {ι : List Addr} {μ : Store} {x y : V} {v u : Value} {d e : D} {k : Bool → M β}
    (I : Inv X pins σ H s) (r1 : RelV x v) (r2 : RelV y u) (p1 : Rp G H ι d x) (p2 : Rp G H ι e y) (sd : Sd G μ ι H) (o : Out G W σ ι H R (bnd (cmpB op d e) k μ)) :
    wpAny (model X.prog X.w) X.A (compareOp (copOf op) v u) (fun c s' => ∃ b μ' ι' H', c = .bool b ∧ Inv X pins σ H' s' ∧ Ext ι H ι' H' ∧ Sd G μ' ι' H' ∧ Out G W σ ι' H' R (k b μ')) X.xe s := by
  refine thn (vb_cmp g op pins s σ H ι μ d e x y v u (fun k' H' => ∃ μ' ι', Ext ι H ι' H' ∧ Sd G μ' ι' H' ∧ Out G W σ ι' H' R (k k' μ')) I r1 r2 p1 p2 sd (o.fst.imp fun b ι' H' ⟨μ', s', x', q⟩ => ⟨μ', ι', x', s', q⟩)) fun c s' ⟨z, H', I', r', b, e', μ', ι', x', s', q⟩ => ?_
  subst e'
  cases r'
  exact ⟨b, μ', ι', H', rfl, I', x', s', q⟩
theorem marks2 {op op' : CmpOp} {b c : Expr} (h : behindInMarks op' c = false) : lastMarks [op, op'] [b, c] = false := by
  first
    | exact h
    | (unfold lastMarks; exact h)
    | (simp only [lastMarks]; exact h)
theorem jt_chn {op op' : Cop} (g : Good G X W) (ha : JE G X pn W a ma) (hb : JE G X pn W b mb) (hc : JE G X pn W c mc) (h2 : behindInMarks (copOf op') c = false) :
    JT G X pn W (.Compare a [copOf op, copOf op'] [b, c] pos) (tChn op op' ma mb mc) :=
  ⟨fun pins s σ H Q I ⟨σd, μ, ι, ed, sd, o⟩ => by
    refine isTrue_chain (thn (ha.use I ed sd o) fun v s1 ⟨x, d, μ1, ι1, H1, I1, r1, p1, x1, sd1, o1⟩ => test_link (thn (hb.use I1 (ed.ext x1) sd1 o1) fun u s2 ⟨y, e, μ2, ι2, H2, I2, r2, p2, x2, sd2, o2⟩ =>
      thn (chn_ok g I2 r1 r2 (Rp.ext x2 p1) p2 sd2 o2) fun z s3 ⟨k, μ3, ι3, H3, e3, I3, x3, sd3, o3⟩ => ?_)) (marks2 h2)
    subst e3
    refine wpAny_truthy_bool ?_
    cases k with
    | false =>
      rw [if_neg Bool.false_ne_true] at o3
      exact ite_ff ⟨H3, I3, o3.ret_ sd3⟩
    | true =>
      rw [if_pos rfl] at o3
      refine ite_tt (test_last (thn (hc.use I3 (((ed.ext x1).ext x2).ext x3) sd3 o3) fun w s4 ⟨z', f, μ4, ι4, H4, I4, r4, p4, x4, sd4, o4⟩ => thn (vb_cmp g op' pins s4 σ H4 ι4 μ4 e f y z' u w Q I4 r2 r4 (Rp.ext x4 (Rp.ext x3 p2)) p4 sd4 o4) fun d' s5 ⟨z2, H5, I5, r5, k2, e2, q5⟩ => ?_))
      subst e2
      cases r5
      exact wpAny_truthy_bool ⟨H5, I5, q5⟩⟩
theorem je_chn {op op' : Cop} (g : Good G X W) (ha : JE G X pn W a ma) (hb : JE G X pn W b mb) (hc : JE G X pn W c mc) (h2 : behindInMarks (copOf op') c = false) :
    JE G X pn W (.Compare a [copOf op, copOf op'] [b, c] pos) (cChn op op' ma mb mc) :=
  je_mk fun pins s σ H ι μ σd Q I ed sd o => by
    have o : Out G W σ ι H (RV G Q) (bnd (tChn op op' ma mb mc σd) (fun b => ret (.bl b)) μ) := o
    have o : Out G W σ ι H (RB fun k H' => Q (.bl k) H') (tChn op op' ma mb mc σd μ) := o.fst.imp fun k ι' H' ⟨μ', s', x', q⟩ => out_ret q s' rfl
    refine Compare_chain (thn (ha.use I ed sd o) fun v s1 ⟨x, d, μ1, ι1, H1, I1, r1, p1, x1, sd1, o1⟩ => chain_link (thn (hb.use I1 (ed.ext x1) sd1 o1) fun u s2 ⟨y, e, μ2, ι2, H2, I2, r2, p2, x2, sd2, o2⟩ =>
      thn (chn_ok g I2 r1 r2 (Rp.ext x2 p1) p2 sd2 o2) fun z s3 ⟨k, μ3, ι3, H3, e3, I3, x3, sd3, o3⟩ => ?_)) (marks2 h2)
    subst e3
    refine wpAny_truthy_bool ?_
    cases k with
    | false =>
      rw [if_neg Bool.false_ne_true] at o3
      exact ite_ff ⟨.bl false, H3, I3, rfl, o3.ret_ sd3⟩
    | true =>
      rw [if_pos rfl] at o3
      refine ite_tt (chain_last (thn (hc.use I3 (((ed.ext x1).ext x2).ext x3) sd3 o3) fun w s4 ⟨z', f, μ4, ι4, H4, I4, r4, p4, x4, sd4, o4⟩ => thn (vb_cmp g op' pins s4 σ H4 ι4 μ4 e f y z' u w _ I4 r2 r4 (Rp.ext x4 (Rp.ext x3 p2)) p4 sd4 o4) fun d' s5 ⟨z2, H5, I5, r5, k2, e2, q5⟩ => ?_))
      subst e2
      exact ⟨.bl k2, H5, I5, r5, q5⟩
/-! ### tests -/
theorem jt_val (g : Good G X W) (ha : JE G X pn W a ma) (he : ∀ whole, isTrue a X.env whole = (do let v ← whole; standAt a.pos; holding [v] (truthy v))) : JT G X pn W a (tVal ma) :=
  ⟨fun pins s σ H Q I ⟨σd, μ, ι, ed, sd, o⟩ => by
    refine (pt_truth ha he).run pins s σ H Q I ⟨σd, μ, ι, ed, sd, o.fst.imp fun d ι1 H1 ⟨μ1, s1, x1, o1⟩ v r => ?_⟩
    rw [g.K]
    exact tru_of r s1 o1⟩
theorem jt_of {tt : DenT} (h : ∀ (pins : List (Addr × Obj)) (s : Shared) (σ : St) (H : Hp) (ι : List Addr) (μ : Store) (σd : Env) (Q : Bool → Hp → Prop), Inv X pins σ H s → Ed G pn σd σ H ι → Sd G μ ι H → Out G W σ ι H (RB Q) (tt σd μ) → wpAny (model X.prog X.w) X.A (isTrue a X.env (eval a X.env)) (TP X pins σ Q) X.xe s) : JT G X pn W a tt :=
  ⟨fun pins s σ H Q I ⟨σd, μ, ι, ed, sd, o⟩ => h pins s σ H ι μ σd Q I ed sd o⟩
variable {ta tb tc : DenT} {rest : List Expr}
theorem jt_not (ha : JT G X pn W a ta) : JT G X pn W (.UnaryOp .Not a pos) (tNot ta) :=
  jt_of fun pins s σ H ι μ σd Q I ed sd o =>
    isTrue_not (thn (ha.use I ed sd o) fun b s1 ⟨μ1, ι1, H1, I1, x1, sd1, o1⟩ => ⟨H1, I1, o1.ret_ sd1⟩)
theorem jw_and1 (ha : JT G X pn W a ta) : JW G X pn W (.BoolOp .And [a] pos) ta := pw_and1 ha
theorem jw_or1 (ha : JT G X pn W a ta) : JW G X pn W (.BoolOp .Or [a] pos) ta := pw_or1 ha
theorem jw_and (ha : JT G X pn W a ta) (hb : JW G X pn W (.BoolOp .And (b :: rest) pos) tb) : JW G X pn W (.BoolOp .And (a :: b :: rest) pos) (tAnd ta tb) :=
  ⟨fun wh pins s σ H Q I ⟨σd, μ, ι, ed, sd, o⟩ => by
    refine isTrue_and (thn (ha.use I ed sd o) fun k s1 ⟨μ1, ι1, H1, I1, x1, sd1, o1⟩ => ?_)
    cases k with
    | true =>
      rw [if_pos rfl] at o1
      exact hb.run wh pins s1 σ H1 Q I1 ⟨σd, μ1, ι1, ed.ext x1, sd1, o1⟩
    | false =>
      rw [if_neg Bool.false_ne_true] at o1
      exact ⟨H1, I1, o1.ret_ sd1⟩⟩
theorem jw_or (ha : JT G X pn W a ta) (hb : JW G X pn W (.BoolOp .Or (b :: rest) pos) tb) : JW G X pn W (.BoolOp .Or (a :: b :: rest) pos) (tOr ta tb) :=
  ⟨fun wh pins s σ H Q I ⟨σd, μ, ι, ed, sd, o⟩ => by
    refine isTrue_or (thn (ha.use I ed sd o) fun k s1 ⟨μ1, ι1, H1, I1, x1, sd1, o1⟩ => ?_)
    cases k with
    | false =>
      rw [if_neg Bool.false_ne_true] at o1
      exact hb.run wh pins s1 σ H1 Q I1 ⟨σd, μ1, ι1, ed.ext x1, sd1, o1⟩
    | true =>
      rw [if_pos rfl] at o1
      exact ⟨H1, I1, o1.ret_ sd1⟩⟩
theorem jw_jt (h : JW G X pn W a ta) : JT G X pn W a ta := h.pt
/-! ### and, or, not as values -/
theorem out_asB {d : D} {v : V} {σ : St} {H : Hp} {ι : List Addr} {μ : Store} {β : Type} {R : β → List Addr → Hp → Prop} {k : Bool → M β} (o : Out G W σ ι H R (bnd (asB d) k μ)) (r : Rp G H ι d v) : ∃ b, v = .bl b ∧ Out G W σ ι H R (k b μ) := by
  cases d with
  | bl b => exact ⟨b, r, o⟩
  | _ => exact o.elim
theorem je_one {op : BoolOp} (h : JE G X pn W a ma) : JE G X pn W (.BoolOp op [a] pos) ma := pe_one h
theorem je_and (ha : JE G X pn W a ma) (hb : JE G X pn W (.BoolOp .And (b :: rest) pos) mb) : JE G X pn W (.BoolOp .And (a :: b :: rest) pos) (cAnd ma mb) :=
  je_mk fun pins s σ H ι μ σd Q I ed sd o => by
    refine BoolOp_and (thn (ha.use I ed sd o) fun v s1 ⟨x, d, μ1, ι1, H1, I1, r1, p1, x1, sd1, o1⟩ => ?_)
    obtain ⟨k, rfl, o1⟩ := out_asB o1 p1
    cases r1
    refine wpAny_truthy_bool ?_
    cases k with
    | true =>
      rw [if_pos rfl] at o1
      exact hb.run pins s1 σ H1 Q I1 ⟨σd, μ1, ι1, ed.ext x1, sd1, o1⟩
    | false =>
      rw [if_neg Bool.false_ne_true] at o1
      exact ⟨.bl false, H1, I1, rfl, out_ret o1 sd1 rfl⟩
theorem je_or (ha : JE G X pn W a ma) (hb : JE G X pn W (.BoolOp .Or (b :: rest) pos) mb) : JE G X pn W (.BoolOp .Or (a :: b :: rest) pos) (cOr ma mb) :=
  je_mk fun pins s σ H ι μ σd Q I ed sd o => by
    refine BoolOp_or (thn (ha.use I ed sd o) fun v s1 ⟨x, d, μ1, ι1, H1, I1, r1, p1, x1, sd1, o1⟩ => ?_)
    obtain ⟨k, rfl, o1⟩ := out_asB o1 p1
    cases r1
    refine wpAny_truthy_bool ?_
    cases k with
    | false =>
      rw [if_neg Bool.false_ne_true] at o1
      exact hb.run pins s1 σ H1 Q I1 ⟨σd, μ1, ι1, ed.ext x1, sd1, o1⟩
    | true =>
      rw [if_pos rfl] at o1
      exact ⟨.bl true, H1, I1, rfl, out_ret o1 sd1 rfl⟩
theorem je_not (ha : JE G X pn W a ma) : JE G X pn W (.UnaryOp .Not a pos) (cNot ma) :=
  je_mk fun pins s σ H ι μ σd Q I ed sd o => by
    refine UnaryOp_ (thn (ha.use I ed sd o) fun v s1 ⟨x, d, μ1, ι1, H1, I1, r1, p1, x1, sd1, o1⟩ => ?_)
    obtain ⟨k, rfl, o1⟩ := out_asB o1 p1
    cases r1
    exact not_of (wpAny_truthy_bool ⟨.bl (!k), H1, I1, rfl, out_ret o1 sd1 rfl⟩)
theorem je_ife (hc : JT G X pn W c tc) (ha : JE G X pn W a ma) (hb : JE G X pn W b mb) : JE G X pn W (.IfExp c a b pos) (cIf tc ma mb) :=
  je_mk fun pins s σ H ι μ σd Q I ed sd o => by
    refine wpAny_IfExp (thn (hc.use I ed sd o) fun k s1 ⟨μ1, ι1, H1, I1, x1, sd1, o1⟩ => ?_)
    cases k with
    | true =>
      rw [if_pos rfl] at o1
      exact ha.run pins s1 σ H1 Q I1 ⟨σd, μ1, ι1, ed.ext x1, sd1, o1⟩
    | false =>
      rw [if_neg Bool.false_ne_true] at o1
      exact hb.run pins s1 σ H1 Q I1 ⟨σd, μ1, ι1, ed.ext x1, sd1, o1⟩
/-! ### arguments, displays -/
variable {es : List Expr} {da : DenA}
theorem ja_nil : JA G X pn W [] aNil := ⟨fun pos pins s σ H Q I ⟨σd, μ, ι, ed, sd, o⟩ => Calls.spliced_nil ⟨[], H, I, .nil, o.ret_ sd [] rfl⟩⟩
theorem ja_cons (ha : JE G X pn W a ma) (hr : JA G X pn W es da) (hs : starEach (a :: es) X.env = (false, eval a X.env) :: starEach es X.env) : JA G X pn W (a :: es) (aCons ma da) :=
  ⟨fun pos pins s σ H Q I ⟨σd, μ, ι, ed, sd, o⟩ => by
    rw [hs]
    show wpAny _ _ (spliced ((false, eval a X.env) :: backTo pos (starEach es X.env))) _ _ s
    refine Calls.spliced_cons (thn (ha.use I ed sd o) fun v s1 ⟨x, d, μ1, ι1, H1, I1, r1, p1, x1, sd1, o1⟩ => ?_)
    exact thn (hr.use pos I1 (ed.ext x1) sd1 o1) fun us s2 ⟨vs, ds, μ2, ι2, H2, I2, r2, p2, x2, sd2, o2⟩ => ⟨x :: vs, H2, I2, .cons r1 r2, o2.ret_ sd2 _ ⟨x, vs, rfl, Rp.ext x2 p1, p2⟩⟩⟩
theorem je_tup {k : Nat} (h : JA G X pn W es da) : JE G X pn W (.Tuple es k pos) (cTup da) :=
  je_te (pe_tup h) fun pins s σ H ι μ σd Q I ed sd o => ⟨σd, μ, ι, ed, sd, o.fst.imp fun ds ι1 H1 ⟨μ1, s1, x1, o1⟩ vs r => ⟨by rw [r.length]; exact newT_len o1, fun p hp => out_newT o1 s1 r hp⟩⟩
theorem je_lst (h : JA G X pn W es da) : JE G X pn W (.List es pos) (cLst da) :=
  je_te (pe_lst h) fun pins s σ H ι μ σd Q I ed sd o => ⟨σd, μ, ι, ed, sd, o.fst.imp fun ds ι1 H1 ⟨μ1, s1, x1, o1⟩ vs r => ⟨by rw [r.length]; exact newL_len o1, fun p hp => out_newL o1 s1 r hp⟩⟩
/-! ### subscripts -/
theorem ixr (g : Good G X W) : IxR X (fun x y H Q => ∃ d e μ ι σ, Rp G H ι d x ∧ Rp G H ι e y ∧ Sd G μ ι H ∧ Out G W σ ι H (RV G Q) (ixD d e μ)) := by
  intro value slice pins s σ H x y v u Q I rx ry ⟨d, e, μ, ι, σ', r1, r2, sd, o⟩ hs
  refine ix_ok g value slice (σ := σ) I rx ry r1 r2 sd ?_ hs
  cases q : ixD d e μ with
  | ok b μ' => rw [q] at o; exact o
  | stuck => rw [q] at o; exact o.elim
  | err c fs μ' =>
    exfalso
    have ni : ∀ (d : D) (μ : Store) c fs μ', (items d) μ ≠ .err c fs μ' := fun d μ c fs μ' h => by
      unfold items at h
      split at h <;> first | cases h | (split at h <;> cases h)
    have nb : ∀ {α : Type} {x : Option α} {k : α → M D} {μ : Store}, (∀ a c fs μ', k a μ ≠ .err c fs μ') → ∀ c fs μ', bnd (optM x) k μ ≠ .err c fs μ' := fun {α x k μ} hk c fs μ' h => by
      cases x with
      | none => cases h
      | some a => exact hk a c fs μ' h
    unfold ixD at q
    split at q
    · split at q
      · split at q
        · exact nb (fun a c fs μ' h => by cases h) _ _ _ q
        · cases q
      · unfold bnd at q
        split at q
        · rename_i x1 x2 x3 x4
          unfold optM at q
          dsimp only at q
          split at q <;> cases q
        · rename_i h
          exact ni _ _ _ _ _ h
        · cases q
    · cases q
theorem je_ix (g : Good G X W) (ha : JE G X pn W a ma) (hb : JE G X pn W b mb) (hs : PlainIx b) : JE G X pn W (.Subscript a b pos) (c2 ixD ma mb) :=
  je_te (pe_ix (ixr g) ha hb hs) fun pins s σ H ι μ σd Q I ed sd o =>
    ⟨σd, μ, ι, ed, sd, o.fst.imp fun d ι1 H1 ⟨μ1, s1, x1, o1⟩ v r => ⟨σd, μ1, ι1, ed.ext x1, s1, o1.fst.imp fun e ι2 H2 ⟨μ2, s2, x2, o2⟩ u r2 => ⟨d, e, μ2, ι2, σ, Rp.ext x2 r, r2, s2, o2⟩⟩⟩
abbrev JP (G : Gt) (X : Cx) (pn : List (Addr × Obj)) (W : WX) (e : Option Expr) (m : DenP) : Prop := PO X e (fun σ H Q => ∃ σd μ ι, Ed G pn σd σ H ι ∧ Sd G μ ι H ∧ Out G W σ ι H (fun (o : Option Int) _ H' => Q o H') (m σd μ))
theorem jp_no : JP G X pn W none pNo := ⟨fun pins s σ H Q I ⟨σd, μ, ι, ed, sd, o⟩ => po_none.run pins s σ H Q I (o.ret_ sd)⟩
theorem jp_some (ha : JE G X pn W a ma) : JP G X pn W (some a) (pSome ma) := ⟨fun pins s σ H Q I ⟨σd, μ, ι, ed, sd, o⟩ => by
  refine (po_some ha).run pins s σ H Q I ⟨σd, μ, ι, ed, sd, o.fst.imp fun d ι1 H1 ⟨μ1, s1, x1, o1⟩ v r => ?_⟩
  cases d with
  | int i => exact ⟨i, r, o1.ret_ s1⟩
  | _ => exact o1.elim⟩
theorem je_sl {lo hi : Option Expr} {pl ph : DenP} {p2 : Pos} (g : Good G X W) (ha : JE G X pn W a ma) (hl : JP G X pn W lo pl) (hh : JP G X pn W hi ph) : JE G X pn W (.Subscript a (.Slice lo hi none p2) pos) (cSl ma pl ph) :=
  je_te (pe_slice (sl_ok g) ha hl hh) fun pins s σ H ι μ σd Q I ed sd o =>
    ⟨σd, μ, ι, ed, sd, o.fst.imp fun d ι1 H1 ⟨μ1, s1, x1, o1⟩ v r => ⟨σd, μ1, ι1, ed.ext x1, s1, o1.fst.imp fun l ι2 H2 ⟨μ2, s2, x2, o2⟩ => ⟨σd, μ2, ι2, (ed.ext x1).ext x2, s2, o2.fst.imp fun h ι3 H3 ⟨μ3, s3, x3, o3⟩ =>
      ⟨d, μ3, ι3, σ, Rp.ext x3 (Rp.ext x2 r), s3, o3⟩⟩⟩⟩
end
end Mini

set_option Elab.async false
set_option linter.all false
set_option maxRecDepth 100000
set_option maxHeartbeats 4000000
/-! # Mini, part G: calls, what is walked, targets, comprehensions -/
namespace Mini
open PySem PySem.Spec L2
open PyProof.Rows (Call_)

/-- a def's promise by the oracle -/
def spI (G : Gt) (C : Orc) (i : Nat) : Sp := fun vs H Q E => ∃ ds μ ι, Sd G μ ι H ∧ RpL G H ι ds vs ∧ Out G (fun cls od _ H => E cls od H) [] ι H (RV G Q) (C i ds μ)
section
variable {G : Gt} {X : Cx} {W : WX} {pn : List (Addr × Obj)}
theorem out_w {β : Type} {σ : St} {ι : List Addr} {H : Hp} {R : β → List Addr → Hp → Prop} {r : Res β} (h : Out G W σ ι H R r) : Out G (fun cls od _ H => W cls od σ H) [] ι H R r := by
  cases r with
  | ok b μ => exact h
  | err c fs μ => exact h
  | stuck => exact h
variable {a b : Expr} {ma mb : Den} {pos p apos : Pos} {es : List Expr} {da : DenA} {x : Str}
theorem je_call {C : Orc} {i k : Nat} {f : Addr} {fd : FuncData} {ps : List Str} (F : FnOk X.prog X.w X.K X.mg X.base (L2.CX X.prog X.w) k f fd ps (spI G C i)) (hr : Room k X.A) (hg : Gl X x) (hm : X.mg x = some (.ref f)) (hk : PySem.W.keepIn X.K (.ref f) = true) (hb : Binds X.K fd ps []) (tk : Takes X W)
    (ha : JA G X pn W (a :: es) da) (hdb : (x == ("__debug__" : Str)) = false) (he : starEach (a :: es) X.env = (false, eval a X.env) :: starEach es X.env) (hpl : (backTo pos (starEach es X.env)).any (·.1) = false) :
    JE G X pn W (.Call (.Name x p) (a :: es) [] pos) (cCall C i da) :=
  je_te (pe_callS F hr hg hm hk hb (fun σ => passAt tk σ) ha hdb he hpl) fun pins s σ H ι μ σd Q I ed sd o =>
    ⟨σd, μ, ι, ed, sd, o.fst.imp fun ds ι1 H1 ⟨μ1, s1, x1, o1⟩ vs r => ⟨ds, μ1, ι1, s1, r, out_w o1⟩⟩
theorem je_call0 {C : Orc} {i k : Nat} {f : Addr} {fd : FuncData} {ps : List Str} (F : FnOk X.prog X.w X.K X.mg X.base (L2.CX X.prog X.w) k f fd ps (spI G C i)) (hr : Room k X.A) (hg : Gl X x) (hm : X.mg x = some (.ref f)) (hk : PySem.W.keepIn X.K (.ref f) = true) (hb : Binds X.K fd ps []) (tk : Takes X W)
    (hdb : (x == ("__debug__" : Str)) = false) : JE G X pn W (.Call (.Name x p) [] [] pos) (cCall C i aNil) :=
  je_mk fun pins s σ H ι μ σd Q I ed sd o => by
    refine wpAny_Call_Name_kw (ld_glob I hg hm ?_ hdb)
    refine PySem.W.callWith_K0 I.kIn hk ?_
    exact run_fnS (us := []) (vs := []) F hr hb (E := WE W) (passAt tk σ) I .nil ⟨[], μ, ι, sd, rfl, out_w o⟩
theorem je_B {id : String} {f : List D → M D} (hf : VC G X W (.builtin id) f) (hg : Gl X x) (hm : X.mg x = none) (hv : bootBuiltins x = some (.builtin id)) (hn : x ≠ "__name__") (hdb : (x == ("__debug__" : Str)) = false)
    (ha : JA G X pn W (a :: es) da) (he : starEach (a :: es) X.env = (false, eval a X.env) :: starEach es X.env) (hpl : (backTo pos (starEach es X.env)).any (·.1) = false) : JE G X pn W (.Call (.Name x p) (a :: es) [] pos) (cB f da) :=
  je_mk fun pins s σ H ι μ σd Q I ed sd o => by
    refine wpAny_Call_Name_kw (ld_blt I hg hm hv ?_ hn hdb)
    exact PyProof.Rows.callWith_builtin1 (thn (ha.use pos I ed sd o) fun us s1 ⟨vs, ds, μ1, ι1, H1, I1, r1, p1, x1, sd1, o1⟩ => hf pins s1 σ H1 ι1 μ1 ds vs us Q I1 r1 p1 sd1 o1) he hpl
theorem je_Ty {T : String} {f : List D → M D} (hf : VC G X W (.type T) f) (hg : Gl X x) (hm : X.mg x = none) (hv : bootBuiltins x = some (.type T)) (hn : x ≠ "__name__") (hdb : (x == ("__debug__" : Str)) = false)
    (ha : JA G X pn W (a :: es) da) (he : starEach (a :: es) X.env = (false, eval a X.env) :: starEach es X.env) (hpl : (backTo pos (starEach es X.env)).any (·.1) = false) : JE G X pn W (.Call (.Name x p) (a :: es) [] pos) (cB f da) :=
  je_mk fun pins s σ H ι μ σd Q I ed sd o => by
    refine wpAny_Call_Name_kw (ld_blt I hg hm hv ?_ hn hdb)
    exact PyProof.Rows.callWith_type1 (thn (ha.use pos I ed sd o) fun us s1 ⟨vs, ds, μ1, ι1, H1, I1, r1, p1, x1, sd1, o1⟩ => hf pins s1 σ H1 ι1 μ1 ds vs us Q I1 r1 p1 sd1 o1) he hpl
theorem out_unit {d : D} {c : D → M Unit} {β : Type} {k : Unit → M β} {σ : St} {ι : List Addr} {H : Hp} {R : β → List Addr → Hp → Prop} {μ : Store} (hc : ∀ c' fs μ', c d μ ≠ .err c' fs μ') (hk : ∀ μ', c d μ = .ok () μ' → μ' = μ) (o : Out G W σ ι H R (bnd (c d) k μ)) : (∃ μ', c d μ = .ok () μ') ∧ Out G W σ ι H R (k () μ) := by
  unfold bnd at o
  cases e : c d μ with
  | ok u μ' =>
    rw [e] at o
    have z := hk μ' e
    subst z
    exact ⟨⟨_, rfl⟩, o⟩
  | err c' fs μ' => exact absurd e (hc c' fs μ')
  | stuck => rw [e] at o; exact o.elim
/-- a look at the receiver that changes nothing -/
def Looks1 (c : D → M Unit) : Prop := ∀ d μ, (∀ c' fs μ', c d μ ≠ .err c' fs μ') ∧ ∀ μ', c d μ = .ok () μ' → μ' = μ
theorem looks_lst : Looks1 isLst := fun d μ => by
  refine ⟨fun c' fs μ' h => ?_, fun μ' h => ?_⟩
  · cases d with
    | loc n =>
      unfold isLst bnd litems at h
      dsimp only at h
      split at h
      · cases h
      · rename_i h2
        split at h2 <;> cases h2
      · cases h
    | _ => cases h
  · obtain ⟨_, _, _, _, e⟩ := isLst_at h
    exact e
theorem je_M0 {name : Str} {c : D → M Unit} {f : D → List D → M D} (g : Good G X W) (hc : Looks1 c) (hf : VM G X W name c f) (ha : JE G X pn W a ma) (hbase : attributeBase a name X.env (eval a X.env) = eval a X.env) (hline : (apos.endLine == pos.line) = true) :
    JE G X pn W (.Call (.Attribute a name apos) [] [] pos) (cM c f ma aNil) :=
  je_mk fun pins s σ H ι μ σd Q I ed sd o => by
    refine wpAny_Call_method0_late hbase hline (thn (ha.use I ed sd o) fun v s1 ⟨x, d, μ1, ι1, H1, I1, r1, p1, x1, sd1, o1⟩ => ?_)
    obtain ⟨h1, o2⟩ := out_unit (hc d μ1).1 (hc d μ1).2 o1
    obtain ⟨T, id, pa, slot, hty, ty, run⟩ := hf pins s1 σ H1 ι1 μ1 d x v I1 r1 p1 sd1 h1
    obtain ⟨k1, k2⟩ := tyV_is I1 r1 ty
    exact ⟨T, id, pa, slot, hty, k1, k2, Calls.callWith_builtin rfl (PySem.evalArgs_none (run pins s1 H1 ι1 μ1 [] [] [] Q I1 .nil p1 rfl sd1 o2))⟩
theorem je_M {name : Str} {c : D → M Unit} {f : D → List D → M D} (g : Good G X W) (hc : Looks1 c) (hf : VM G X W name c f) (ha : JE G X pn W a ma) (hb : JA G X pn W (b :: es) da) (hbase : attributeBase a name X.env (eval a X.env) = eval a X.env)
    (hfew : ((backTo pos (starEach (b :: es) X.env)).all (fun x => !x.1) && (backToKw pos (keywordEach [] X.env)).all (fun x => x.1.isSome)
      && decide ((b :: es).length + ([] : List Keyword).length + (if ([] : List Keyword).isEmpty then 0 else 1) < 30)) = true)
    (hline : (apos.endLine == pos.line) = true) (hs : starEach (b :: es) X.env = (false, eval b X.env) :: starEach es X.env) (hplain : (backTo pos (starEach es X.env)).any (·.1) = false) :
    JE G X pn W (.Call (.Attribute a name apos) (b :: es) [] pos) (cM c f ma da) :=
  je_mk fun pins s σ H ι μ σd Q I ed sd o => by
    refine wpAny_Call_method_late hbase hfew hline rfl (thn (ha.use I ed sd o) fun v s1 ⟨x, d, μ1, ι1, H1, I1, r1, p1, x1, sd1, o1⟩ => ?_)
    obtain ⟨h1, o2⟩ := out_unit (hc d μ1).1 (hc d μ1).2 o1
    obtain ⟨T, id, pa, slot, hty, ty, run⟩ := hf pins s1 σ H1 ι1 μ1 d x v I1 r1 p1 sd1 h1
    obtain ⟨k1, k2⟩ := tyV_is I1 r1 ty
    refine ⟨T, id, pa, slot, hty, k1, k2, ?_⟩
    have hA := hb.use pos I1 (ed.ext x1) sd1 o2
    rw [hs] at hA ⊢
    refine Calls.callWith_builtin (by show (false || (backTo pos (starEach es X.env)).any (·.1)) = false; rw [hplain] <;> rfl) (Calls.evalArgs_plain ?_)
    exact thn hA fun us s2 ⟨vs, ds, μ2, ι2, H2, I2, r2, p2, x2, sd2, o3⟩ => run pins s2 H2 ι2 μ2 ds vs us Q I2 r2 (Rp.ext x2 p1) p2 sd2 o3
/-! ### isinstance -/
theorem je_is1 {t : Ty} {te : Expr} (g : Good G X W) (hg : Gl X "isinstance") (hm : X.mg "isinstance" = none) (ha : JE G X pn W a ma) (ht : PE X te (tC (tyV' G t))) (he : starEach [a, te] X.env = [(false, eval a X.env), (false, eval te X.env)]) (he2 : starEach [te] X.env = [(false, eval te X.env)]) :
    JE G X pn W (.Call (.Name "isinstance" p) [a, te] [] pos) (cIs1 ma t) :=
  je_te (pe_callB call_isi hg hm (by decide +kernel) (pa_cons ha (pa_cons ht pa_nil (by rw [he2]; rfl)) (by rw [he, he2])) (by decide) (by decide) (by rw [he, he2]) (by rw [he2]; rfl)) fun pins s σ H ι μ σd Q I ed sd o =>
    ⟨σd, μ, ι, ed, sd, o.fst.imp fun d ι1 H1 ⟨μ1, s1, x1, o1⟩ v r => by
      have o1 : Out G W σ ι1 H1 (RB fun k H' => Q (.bl k) H') (isTy d t μ1) := Out.imp (Out.fst o1) fun k ι' H' ⟨μ', s', x', q⟩ => out_ret q s' rfl
      unfold isTy at o1
      cases h : kdOf μ1 d with
      | none => rw [h] at o1; exact o1.elim
      | some k =>
        rw [h] at o1
        cases h2 : kdIs k t with
        | none => rw [Option.bind_some, h2] at o1; exact o1.elim
        | some b =>
          rw [Option.bind_some, h2] at o1
          exact ⟨v, _, _, _, b, rfl, tyV_cls t, kd_of g h r s1, kd_kit h2, o1 _ _ Ext.refl s1⟩⟩
def tTys (G : Gt) (ts : List Ty) : TA := fun _ H Q => Q (ts.map (tyV' G)) H
theorem pa_ty0 : PA X [] (tTys G []) := pa_nil
theorem pa_ty1 {t : Ty} {ts : List Ty} {te : Expr} {tes : List Expr} (ht : PE X te (tC (tyV' G t))) (hr : PA X tes (tTys G ts)) (hs : starEach (te :: tes) X.env = (false, eval te X.env) :: starEach tes X.env) : PA X (te :: tes) (tTys G (t :: ts)) :=
  ⟨fun pos pins s σ H Q I h => (pa_cons ht hr hs).run pos pins s σ H Q I h⟩
theorem cls_all : ∀ ts : List Ty, Paired ClsV (ts.map (tyV' G)) (ts.map (tyVal G))
  | [] => .nil
  | t :: ts => .cons (tyV_cls t) (cls_all ts)
theorem je_is {ts : List Ty} {tes : List Expr} {k : Nat} {tp : Pos} (g : Good G X W) (hz : ts.length ≤ 100) (hg : Gl X "isinstance") (hm : X.mg "isinstance" = none) (ha : JE G X pn W a ma) (ht : PA X tes (tTys G ts)) (he : starEach [a, .Tuple tes k tp] X.env = [(false, eval a X.env), (false, eval (.Tuple tes k tp) X.env)])
    (he2 : starEach [.Tuple tes k tp] X.env = [(false, eval (.Tuple tes k tp) X.env)]) : JE G X pn W (.Call (.Name "isinstance" p) [a, .Tuple tes k tp] [] pos) (cIs ma ts) :=
  je_te (pe_callB call_isiT hg hm (by decide +kernel) (pa_cons ha (pa_cons (pe_tup ht) pa_nil (by rw [he2]; rfl)) (by rw [he, he2])) (by decide) (by decide) (by rw [he, he2]) (by rw [he2]; rfl)) fun pins s σ H ι μ σd Q I ed sd o =>
    ⟨σd, μ, ι, ed, sd, o.fst.imp fun d ι1 H1 ⟨μ1, s1, x1, o1⟩ v r => by
      refine ⟨by rw [List.length_map, ← line_eq]; exact Nat.le_trans hz (by decide), fun p0 hp0 => ?_⟩
      have ex : Ext ι1 H1 ι1 (upd H1 p0 (.tup (ts.map (tyV' G)))) := Ext.laid hp0
      have o1 : Out G W σ ι1 H1 (RB fun k H' => Q (.bl k) H') (isTys d ts μ1) := Out.imp (Out.fst o1) fun k ι' H' ⟨μ', s', x', q⟩ => out_ret q s' rfl
      unfold isTys at o1
      cases h : kdOf μ1 d with
      | none => rw [h] at o1; exact o1.elim
      | some k =>
        rw [h] at o1
        cases h2 : kdAny k ts with
        | none => rw [Option.bind_some, h2] at o1; exact o1.elim
        | some b =>
          rw [Option.bind_some, h2] at o1
          exact ⟨v, p0, _, _, _, b, rfl, upd_same, cls_all ts, kd_of g h (Rp.ext ex r) (s1.laid hp0), kd_any h2, o1 _ _ ex (s1.laid hp0)⟩⟩
/-! ### what is walked -/
def SrcR (G : Gt) (src : Src) (J : It) (ι0 : List Addr) (H0 : Hp) : Prop := ∀ (i : Nat) (μ : Store) (ι : List Addr) (H : Hp), Le ι0 H0 ι H → Sd G μ ι H →
  (src i μ = some none → J.stop i H) ∧ ∀ d, src i μ = some (some d) → J.go i H ∧ ∀ v H', J.yld i H v H' → Ext ι H ι H' ∧ Sd G μ ι H' ∧ Rp G H' ι d v
def tI (G : Gt) (pn : List (Addr × Obj)) (W : WX) (m : DenI) : TI := fun σ H R => ∃ σd μ ι, Ed G pn σd σ H ι ∧ Sd G μ ι H ∧ Out G W σ ι H (fun src ι' H' => ∀ J, SrcR G src J ι' H' → R J H') (m σd μ)
abbrev JI (G : Gt) (X : Cx) (pn : List (Addr × Obj)) (W : WX) (tg e : Expr) (m : DenI) : Prop := PI X tg e (tI G pn W m)
variable {tg : Expr}
theorem srcR_list {n : Nat} {a : Addr} {ι0 : List Addr} {H0 : Hp} {K : PySem.W.Frag} (hK : K = G.K) (h : ι0[n]? = some a) : SrcR G (srcL n) (Itl K a) ι0 H0 := by
  intro i μ ι H le sd
  have h1 := le.get _ _ h
  unfold srcL
  cases q : μ[n]? with
  | none => exact ⟨fun e => by simp at e, fun d e => by simp at e⟩
  | some ob =>
    cases ob with
    | dct kvs => exact ⟨fun e => by simp at e, fun d e => by simp at e⟩
    | lst xs =>
      obtain ⟨vs, h2, h3⟩ := sd.ob n _ a q h1
      have hS : SqL K H a vs := .inl (.inl h2)
      refine ⟨fun e => ⟨vs, hS, ?_⟩, fun d e => ?_⟩
      · simp only [Option.some.injEq] at e
        rw [h3.length]
        exact List.getElem?_eq_none_iff.mp e
      · simp only [Option.some.injEq] at e
        obtain ⟨v, hv, rv⟩ := h3.get e
        refine ⟨⟨vs, v, hS, hv⟩, fun w H' y => ?_⟩
        obtain ⟨rfl, y⟩ := y
        have z := y vs hS
        rw [hv] at z
        cases z
        exact ⟨Ext.refl, sd, rv⟩
theorem sqF_inj {K : PySem.W.Frag} {H : Hp} {a : Addr} {vs : List V} (h : SqF K H a vs) (z : ∀ o, H a ≠ some (.lst o)) : SqL K H a vs := h.sq
theorem srcR_tup {xs : List D} {vs : List V} {a : Addr} {ι0 : List Addr} {H0 : Hp} {K : PySem.W.Frag} (hK : K = G.K) (h : SqT G.K H0 a vs) (r : RpL G H0 ι0 xs vs) : SrcR G (srcOf xs) (Itt K a) ι0 H0 := by
  intro i μ ι H le sd
  have hS : SqT K H a vs := by rw [hK]; exact SqT.le le h
  have h3 := RpL.le le r
  unfold srcOf
  refine ⟨fun e => ⟨vs, hS, ?_⟩, fun d e => ?_⟩
  · simp only [Option.some.injEq] at e
    rw [h3.length]
    exact List.getElem?_eq_none_iff.mp e
  · simp only [Option.some.injEq] at e
    obtain ⟨v, hv, rv⟩ := h3.get e
    refine ⟨⟨vs, v, hS, hv⟩, fun w H' y => ?_⟩
    obtain ⟨rfl, y⟩ := y
    have z := y vs hS
    rw [hv] at z
    cases z
    exact ⟨Ext.refl, sd, rv⟩
theorem srcR_rol {xs : List D} {vs : List V} {a : Addr} {ι0 : List Addr} {H0 : Hp} {K : PySem.W.Frag} (hK : K = G.K) (h : SqF G.K H0 a vs) (r : RpL G H0 ι0 xs vs) : SrcR G (srcOf xs) (Itl K a) ι0 H0 := by
  intro i μ ι H le sd
  have hS : SqL K H a vs := by rw [hK]; exact (SqF.le le h).sq
  have h3 := RpL.le le r
  unfold srcOf
  refine ⟨fun e => ⟨vs, hS, ?_⟩, fun d e => ?_⟩
  · simp only [Option.some.injEq] at e
    rw [h3.length]
    exact List.getElem?_eq_none_iff.mp e
  · simp only [Option.some.injEq] at e
    obtain ⟨v, hv, rv⟩ := h3.get e
    refine ⟨⟨vs, v, hS, hv⟩, fun w H' y => ?_⟩
    obtain ⟨rfl, y⟩ := y
    have z := y vs hS
    rw [hv] at z
    cases z
    exact ⟨Ext.refl, sd, rv⟩
theorem srcR_str {z : Str} {ι0 : List Addr} {H0 : Hp} : SrcR G (srcOf (z.cps.toList.map fun c => .str ⟨#[c]⟩)) (Its z) ι0 H0 := by
  intro i μ ι H le sd
  unfold srcOf
  rw [List.getElem?_map]
  have e1 : z.cps.toList[i]? = z.cps[i]? := by simp
  rw [e1]
  refine ⟨fun e => ?_, fun d e => ?_⟩
  · show z.cps.size ≤ i
    cases q : z.cps[i]? with
    | none => exact Array.getElem?_eq_none_iff.mp q
    | some c => rw [q] at e; cases e
  · cases q : z.cps[i]? with
    | none => rw [q] at e; cases e
    | some c =>
      rw [q] at e
      simp only [Option.map_some, Option.some.injEq] at e
      subst e
      refine ⟨(Array.getElem?_eq_some_iff.mp q).1, fun w H' y => ?_⟩
      obtain ⟨rfl, c', hc', rfl⟩ := y
      rw [q] at hc'
      cases hc'
      exact ⟨Ext.refl, sd, rfl⟩
theorem srcR_rng {lo hi : Int} {ι0 : List Addr} {H0 : Hp} : SrcR G (srcR lo hi) (Itr lo (hi - lo).toNat) ι0 H0 := by
  intro i μ ι H le sd
  unfold srcR
  by_cases hi : i < (hi - lo).toNat
  · rw [if_pos hi]
    refine ⟨fun e => by simp at e, fun d e => ?_⟩
    simp only [Option.some.injEq] at e
    subst e
    refine ⟨hi, fun w H' y => ?_⟩
    obtain ⟨rfl, rfl⟩ := y
    exact ⟨Ext.refl, sd, rfl⟩
  · rw [if_neg hi]
    exact ⟨fun _ => Nat.le_of_not_lt hi, fun d e => by simp at e⟩
theorem ji_V (g : Good G X W) (ha : JE G X pn W a ma) : JI G X pn W tg a (iV ma) := by
  refine ⟨fun pins s σ H R I ⟨σd, μ, ι, ed, sd, o⟩ => ?_⟩
  have o : Out G W σ ι H (fun src ι' H' => ∀ J, SrcR G src J ι' H' → R J H') (bnd (ma σd) srcD μ) := o
  have of := o.fst
  cases e : ma σd μ with
  | stuck => rw [e] at of; exact of.elim
  | err c fs μ1 =>
    rw [e] at of
    exact (pi_list ha).run pins s σ H R I ⟨σd, μ, ι, ed, sd, by rw [e]; exact of⟩
  | ok d μ1 =>
    rw [e] at of
    cases d with
    | tup xs =>
      refine (pi_tup ha).run pins s σ H R I ⟨σd, μ, ι, ed, sd, ?_⟩
      rw [e]
      intro ι' H' x' s' v r
      obtain ⟨μ2, s2, x2, o2⟩ := of ι' H' x' s'
      obtain ⟨b, vs, rfl, h2, h3⟩ := r
      exact ⟨b, rfl, ⟨vs, by rw [g.K]; exact h2⟩, o2.ret_ s2 _ (srcR_tup g.K h2 h3)⟩
    | rol xs =>
      refine (pi_list ha).run pins s σ H R I ⟨σd, μ, ι, ed, sd, ?_⟩
      rw [e]
      intro ι' H' x' s' v r
      obtain ⟨μ2, s2, x2, o2⟩ := of ι' H' x' s'
      obtain ⟨b, vs, rfl, h2, h3⟩ := r
      exact ⟨b, rfl, ⟨vs, by rw [g.K]; exact h2.sq⟩, o2.ret_ s2 _ (srcR_rol g.K h2 h3)⟩
    | str z =>
      refine (pi_str ha).run pins s σ H R I ⟨σd, μ, ι, ed, sd, ?_⟩
      rw [e]
      intro ι' H' x' s' v r
      obtain ⟨μ2, s2, x2, o2⟩ := of ι' H' x' s'
      exact ⟨z, r, o2.ret_ s2 _ srcR_str⟩
    | loc n =>
      refine (pi_list ha).run pins s σ H R I ⟨σd, μ, ι, ed, sd, ?_⟩
      rw [e]
      intro ι' H' x' s' v r
      obtain ⟨μ2, s2, x2, o2⟩ := of ι' H' x' s'
      obtain ⟨b, xs, vs, rfl, k1, k2, k3, k4, o3⟩ := out_litems o2 s2 r
      exact ⟨b, rfl, ⟨vs, .inl (.inl k3)⟩, o3.ret_ s2 _ (srcR_list g.K k2)⟩
    | non =>
      refine (pi_list ha).run pins s σ H R I ⟨σd, μ, ι, ed, sd, ?_⟩
      rw [e]
      intro ι' H' x' s' v r
      obtain ⟨μ2, s2, x2, o2⟩ := of ι' H' x' s'
      exact o2.elim
    | bl b =>
      refine (pi_list ha).run pins s σ H R I ⟨σd, μ, ι, ed, sd, ?_⟩
      rw [e]
      intro ι' H' x' s' v r
      obtain ⟨μ2, s2, x2, o2⟩ := of ι' H' x' s'
      exact o2.elim
    | int i =>
      refine (pi_list ha).run pins s σ H R I ⟨σd, μ, ι, ed, sd, ?_⟩
      rw [e]
      intro ι' H' x' s' v r
      obtain ⟨μ2, s2, x2, o2⟩ := of ι' H' x' s'
      exact o2.elim
    | exn c fs =>
      refine (pi_list ha).run pins s σ H R I ⟨σd, μ, ι, ed, sd, ?_⟩
      rw [e]
      intro ι' H' x' s' v r
      obtain ⟨μ2, s2, x2, o2⟩ := of ι' H' x' s'
      exact o2.elim
theorem ji_rng1 (hg : Gl X "range") (hm : X.mg "range" = none) (ha : JE G X pn W a ma) (hs : starEach [a] X.env = [(false, eval a X.env)]) : JI G X pn W tg (.Call (.Name "range" p) [a] [] pos) (iRng1 ma) :=
  ⟨fun pins s σ H R I ⟨σd, μ, ι, ed, sd, o⟩ => by
    have o : Out G W σ ι H (fun src ι' H' => ∀ J, SrcR G src J ι' H' → R J H') (bnd (ma σd) _ μ) := o
    refine (pi_range1 hg hm (pa_cons ha pa_nil (by rw [hs]; rfl)) hs).run pins s σ H R I ⟨σd, μ, ι, ed, sd, o.fst.imp fun d ι1 H1 ⟨μ1, s1, x1, o1⟩ v r => ?_⟩
    cases d with
    | int j =>
      dsimp only at o1
      split at o1
      · rename_i hj
        rw [show v = .int j from r]
        have q := o1.ret_ s1 (Itr 0 j.toNat) (by have z := srcR_rng (G := G) (lo := 0) (hi := j) (ι0 := ι1) (H0 := H1); rw [Int.sub_zero] at z; exact z)
        exact ⟨j, rfl, hj.1, hj.2, q⟩
      · exact o1.elim
    | _ => exact o1.elim⟩
theorem ji_rng2 (hg : Gl X "range") (hm : X.mg "range" = none) (ha : JE G X pn W a ma) (hb : JE G X pn W b mb) (hs : starEach [a, b] X.env = [(false, eval a X.env), (false, eval b X.env)]) (hs2 : starEach [b] X.env = [(false, eval b X.env)]) :
    JI G X pn W tg (.Call (.Name "range" p) [a, b] [] pos) (iRng2 ma mb) :=
  ⟨fun pins s σ H R I ⟨σd, μ, ι, ed, sd, o⟩ => by
    have o : Out G W σ ι H (fun src ι' H' => ∀ J, SrcR G src J ι' H' → R J H') (bnd (ma σd) _ μ) := o
    refine (pi_range2 hg hm (pa_cons ha (pa_cons hb pa_nil (by rw [hs2]; rfl)) (by rw [hs, hs2])) hs hs2).run pins s σ H R I ⟨σd, μ, ι, ed, sd, o.fst.imp fun d ι1 H1 ⟨μ1, s1, x1, o1⟩ v r => ⟨σd, μ1, ι1, ed.ext x1, s1, Out.imp (Out.fst o1) fun e ι2 H2 ⟨μ2, s2, x2, o2⟩ u r2 => ?_⟩⟩
    cases d with
    | int i =>
      cases e with
      | int j =>
        dsimp only at o2
        split at o2
        · rename_i hj
          rw [show v = .int i from r, show u = .int j from r2]
          exact ⟨i, j, rfl, ⟨hj.1.1, hj.1.2, hj.2.1, hj.2.2⟩, o2.ret_ s2 _ srcR_rng⟩
        · exact o2.elim
      | _ => exact o2.elim
    | _ => exact o2.elim⟩
/-! ### targets: sl the slots that they fill -/
def OutG (G : Gt) (pn : List (Addr × Obj)) (sl : List Nat) (σ : St) (ι : List Addr) (H : Hp) (Q : St → Hp → Prop) : Res Mini.Env → Prop
  | .ok σd' μ' => ∀ σ' ι' H', Ext ι H ι' H' → Sd G μ' ι' H' → Ed G pn σd' σ' H' ι' → (∀ vs, (∀ j ∈ sl, j ∈ vs) → wipe σ' vs = wipe σ vs) → Q σ' H'
  | _ => False
def tG (G : Gt) (pn : List (Addr × Obj)) (sl : List Nat) (m : DenG) : TG := fun v σ H Q => ∃ d σd μ ι, Rp G H ι d v ∧ Ed G pn σd σ H ι ∧ Sd G μ ι H ∧ OutG G pn sl σ ι H Q (m d σd μ)
abbrev JG (G : Gt) (X : Cx) (pn : List (Addr × Obj)) (sl : List Nat) (tg : Expr) (m : DenG) : Prop := PG X tg (tG G pn sl m)
def tGs (G : Gt) (pn : List (Addr × Obj)) (sl : List Nat) (m : DenGs) : TGs := fun vs σ H Q => ∃ ds σd μ ι, RpL G H ι ds vs ∧ Ed G pn σd σ H ι ∧ Sd G μ ι H ∧ OutG G pn sl σ ι H Q (m ds σd μ)
abbrev JGs (G : Gt) (X : Cx) (pn : List (Addr × Obj)) (sl : List Nat) (tgs : List Expr) (m : DenGs) : Prop := PGs X tgs (tGs G pn sl m)
theorem wipe_at {σ : St} {i j : Nat} : ∀ {vs : List Nat}, (wipe σ vs)[j]? = if j ∈ vs ∧ j < σ.length then some none else σ[j]?
  | [] => by simp [wipe]
  | v :: vs => by
    unfold wipe
    have ih := wipe_at (σ := σ) (i := i) (j := j) (vs := vs)
    by_cases e : v = j
    · subst e
      by_cases hl : v < σ.length
      · rw [List.getElem?_set_self (by rw [wipe_length]; exact hl), if_pos ⟨List.mem_cons_self, hl⟩]
      · rw [List.getElem?_eq_none (by rw [List.length_set, wipe_length]; omega), if_neg (fun z => hl z.2), List.getElem?_eq_none (by omega)]
    · rw [List.getElem?_set_ne e, ih]
      have : (j ∈ v :: vs) ↔ j ∈ vs := by
        rw [List.mem_cons]
        exact ⟨fun z => z.resolve_left fun q => e q.symm, .inr⟩
      simp only [this]
theorem wipe_set {σ : St} {i : Nat} {x : Option V} {vs : List Nat} (h : i ∈ vs) : wipe (σ.set i x) vs = wipe σ vs := by
  apply List.ext_getElem?
  intro j
  rw [wipe_at (i := 0), wipe_at (i := 0), List.length_set]
  by_cases hj : j ∈ vs ∧ j < σ.length
  · rw [if_pos hj, if_pos hj]
  · rw [if_neg hj, if_neg hj]
    by_cases e : i = j
    · subst e
      have : ¬ i < σ.length := fun z => hj ⟨h, z⟩
      rw [List.getElem?_eq_none (by rw [List.length_set]; omega), List.getElem?_eq_none (by omega)]
    · rw [List.getElem?_set_ne e]
theorem jg_name {i : Nat} {x : Str} (hN : X.N.Nodup) (hi : X.N[i]? = some x) (hx : Loc X.env.scope x) (hf : X.fn x = true ∨ X.env.scope.names.lookup x = some .local) : JG G X pn [i] (.Name x pos) (gN i) :=
  ⟨fun pins s σ H v u Q I r ⟨d, σd, μ, ι, rp, ed, sd, o⟩ => (pg_name hN hi hx hf).run pins s σ H v u Q I r (o _ _ _ Ext.refl sd (ed.set rp) fun vs hv => wipe_set (hv i (List.mem_singleton.mpr rfl)))⟩
theorem jgs_nil : JGs G X pn [] [] gsNil :=
  ⟨fun pins s σ H vs us Q I r ⟨ds, σd, μ, ι, rp, ed, sd, o⟩ => by
    cases ds with
    | nil =>
      refine pgs_nil.run pins s σ H vs us Q I r ⟨rp, o _ _ _ Ext.refl sd ed fun _ _ => rfl⟩
    | cons d ds => exact o.elim⟩
theorem outG_bnd {sl sl' : List Nat} {σ : St} {ι : List Addr} {H : Hp} {Q : St → Hp → Prop} {pn : List (Addr × Obj)} {m : M Mini.Env} {k : Mini.Env → M Mini.Env} {μ : Store} (o : OutG G pn (sl ++ sl') σ ι H Q (bnd m k μ)) :
    OutG G pn sl σ ι H (fun σ1 H1 => ∃ σd1 μ1 ι1, Ed G pn σd1 σ1 H1 ι1 ∧ Sd G μ1 ι1 H1 ∧ Ext ι H ι1 H1 ∧ OutG G pn sl' σ1 ι1 H1 Q (k σd1 μ1)) (m μ) := by
  unfold bnd at o
  cases e : m μ with
  | ok σd1 μ1 =>
    rw [e] at o
    intro σ1 ι1 H1 x1 s1 ed1 w1
    refine ⟨σd1, μ1, ι1, ed1, s1, x1, ?_⟩
    dsimp only at o
    cases e2 : k σd1 μ1 with
    | ok σd2 μ2 =>
      rw [e2] at o
      intro σ2 ι2 H2 x2 s2 ed2 w2
      exact o σ2 ι2 H2 (x1.trans x2) s2 ed2 fun vs hv => (w2 vs fun j hj => hv j (List.mem_append_right _ hj)).trans (w1 vs fun j hj => hv j (List.mem_append_left _ hj))
    | err c fs μ2 => rw [e2] at o; exact o
    | stuck => rw [e2] at o; exact o
  | err c fs μ1 => rw [e] at o; exact o
  | stuck => rw [e] at o; exact o
theorem jgs_cons {sl sl' : List Nat} {t : Expr} {ts : List Expr} {m : DenG} {ms : DenGs} (h1 : JG G X pn sl t m) (h2 : JGs G X pn sl' ts ms) (hs : (assignEach (t :: ts) X.env).map (·.2) = assign t X.env :: (assignEach ts X.env).map (·.2)) : JGs G X pn (sl ++ sl') (t :: ts) (gsCons m ms) :=
  ⟨fun pins s σ H vs us Q I r ⟨ds, σd, μ, ι, rp, ed, sd, o⟩ => by
    cases ds with
    | nil => exact o.elim
    | cons d ds =>
      obtain ⟨v, vr, rfl, r1, r2⟩ := rp
      have o : OutG G pn (sl ++ sl') σ ι H Q (bnd (m d σd) (fun σ' => ms ds σ') μ) := o
      have o1 := outG_bnd o
      refine (pgs_cons h1 h2 hs).run pins s σ H (v :: vr) us Q I r ⟨v, vr, rfl, d, σd, μ, ι, r1, ed, sd, ?_⟩
      cases e : m d σd μ with
      | ok σd1 μ1 =>
        rw [e] at o1
        intro σ1 ι1 H1 x1 s1 ed1 w1
        obtain ⟨σd1', μ1', ι1', q1, q2, q3, q4⟩ := o1 σ1 ι1 H1 x1 s1 ed1 w1
        exact ⟨ds, σd1', μ1', ι1', RpL.ext q3 r2, q1, q2, q4⟩
      | err c fs μ1 => rw [e] at o1; exact o1.elim
      | stuck => rw [e] at o1; exact o1.elim⟩
theorem jg_tup {sl : List Nat} {ts : List Expr} {ms : DenGs} {k n : Nat} (g : X.K = G.K) (hc : X.calm = true) (h : JGs G X pn sl ts ms) (hn : (assignEach ts X.env).length = n) (hst : (assignEach ts X.env).findIdx? (·.1) = none) : JG G X pn sl (.Tuple ts k pos) (gT n ms) :=
  ⟨fun pins s σ H v u Q I r ⟨d, σd, μ, ι, rp, ed, sd, o⟩ => by
    cases d with
    | tup xs =>
      obtain ⟨a, vs, rfl, h2, h3⟩ := rp
      have o : OutG G pn sl σ ι H Q ((if xs.length = n then ms xs σd else stk) μ) := o
      split at o
      · rename_i hl
        exact (pg_tup hc h hn hst).run pins s σ H _ u Q I r ⟨a, vs, rfl, by rw [g]; exact h2, h3.length.trans hl, xs, σd, μ, ι, h3, ed, sd, o⟩
      · exact o.elim
    | _ => exact o.elim⟩
theorem outG_fst {α : Type} {sl : List Nat} {σ : St} {ι : List Addr} {H : Hp} {Q : St → Hp → Prop} {pn : List (Addr × Obj)} {m : M α} {k : α → M Mini.Env} {μ : Store} (o : OutG G pn sl σ ι H Q (bnd m k μ)) :
    Out G W σ ι H (fun a ι' H' => ∃ μ', Sd G μ' ι' H' ∧ Ext ι H ι' H' ∧ OutG G pn sl σ ι' H' Q (k a μ')) (m μ) := by
  unfold bnd at o
  cases e : m μ with
  | ok a μ1 =>
    rw [e] at o
    intro ι1 H1 x1 s1
    refine ⟨μ1, s1, x1, ?_⟩
    dsimp only at o
    cases e2 : k a μ1 with
    | ok σd2 μ2 =>
      rw [e2] at o
      intro σ2 ι2 H2 x2 s2 ed2 w2
      exact o σ2 ι2 H2 (x1.trans x2) s2 ed2 w2
    | err c fs μ2 => rw [e2] at o; exact o
    | stuck => rw [e2] at o; exact o
  | err c fs μ1 => rw [e] at o; exact o.elim
  | stuck => rw [e] at o; exact o.elim
theorem jg_sub {o' i' : Expr} {mo mi : Den} (ho : JE G X pn W o' mo) (hi : JE G X pn W i' mi) (hA : ∀ u, assign (.Subscript o' i' pos) X.env u = (do
      let ov ← holding [u] (eval o' X.env)
      let iv ← holding [u, ov] (eval i' X.env)
      standAt pos
      holding [u, ov, iv] (setItem ov iv u)
      release [u, ov, iv] [])) : JG G X pn [] (.Subscript o' i' pos) (gI mo mi) :=
  ⟨fun pins s σ H v u Q I r ⟨d, σd, μ, ι, rp, ed, sd, o⟩ => by
    have o : OutG G pn [] σ ι H Q (bnd (mo σd) (fun x => bnd (mi σd) fun y => bnd (setD x y d) fun _ => ret σd) μ) := o
    rw [hA]
    refine wpAny_bind (wpAny_holding (thn (ho.run pins s σ H _ I ⟨σd, μ, ι, ed, sd, (outG_fst (W := W) o).imp fun x ι1 H1 q w rw' => (⟨x, ι1, rw', q⟩ : ∃ x ι1, Rp G H1 ι1 x w ∧ ∃ μ', Sd G μ' ι1 H1 ∧ Ext ι H ι1 H1 ∧ OutG G pn [] σ ι1 H1 Q (bnd (mi σd) (fun y => bnd (setD x y d) fun _ => ret σd) μ'))⟩) fun ov s1 ⟨w1, H1, I1, r1, x, ι1, p1, μ1, sd1, x1, o1⟩ => ?_))
    refine wpAny_bind (wpAny_holding (thn (hi.run pins s1 σ H1 _ I1 ⟨σd, μ1, ι1, ed.ext x1, sd1, (outG_fst (W := W) o1).imp fun y ι2 H2 q w rw' => (⟨y, ι2, rw', q⟩ : ∃ y ι2, Rp G H2 ι2 y w ∧ ∃ μ', Sd G μ' ι2 H2 ∧ Ext ι1 H1 ι2 H2 ∧ OutG G pn [] σ ι2 H2 Q (bnd (setD x y d) (fun _ => ret σd) μ'))⟩) fun iv s2 ⟨w2, H2, I2, r2, y, ι2, p2, μ2, sd2, x2, o2⟩ => ?_))
    have x12 := x1.trans x2
    refine wpAny_bind (wpAny_standAt (wpAny_bind (wpAny_holding (thn (set_ok (W := W) I2 r1 r2 r (Rp.ext x2 p1) p2 (Rp.ext x12 rp) sd2 (outG_fst (W := W) o2)) fun _ s3 ⟨ι3, H3, I3, x3, μ3, sd3, _, o3⟩ => ?_))))
    refine wpAny_release ⟨σ, H3, I3, ?_⟩
    exact o3 _ _ _ Ext.refl sd3 ((ed.ext x12).ext x3) fun _ _ => rfl⟩
/-! ### list comprehensions -/
/-- a clause's tests -/
def tTs (G : Gt) (pn : List (Addr × Obj)) (W : WX) (m : DenT) : TT := tT G pn W m
abbrev W0 : WX := fun _ _ _ _ => False
theorem out_noErr {β : Type} {σ σ' : St} {ι : List Addr} {H : Hp} {R : β → List Addr → Hp → Prop} {m : M β} {μ : Store} (o : Out G W σ ι H R (noErr m μ)) : Out G W0 σ' ι H R (m μ) := by
  unfold noErr at o
  cases e : m μ with
  | ok a μ' => rw [e] at o; exact o
  | err c fs μ' => rw [e] at o; exact o.elim
  | stuck => rw [e] at o; exact o
theorem bnd_assoc {α β γ : Type} (m : M α) (f : α → M β) (k : β → M γ) : bnd (bnd m f) k = bnd m fun x => bnd (f x) k := by
  funext μ
  unfold bnd
  cases m μ <;> rfl
theorem noErr_bnd {α β : Type} (m : M α) (f : α → M β) : noErr (bnd m f) = bnd (noErr m) fun x => noErr (f x) := by
  funext μ
  unfold noErr bnd
  dsimp only
  cases m μ <;> rfl
theorem bnd_at {α β : Type} {m m' : M α} {k : α → M β} {μ : Store} (h : m μ = m' μ) : bnd m k μ = bnd m' k μ := by
  unfold bnd
  rw [h]
theorem noErr_at {α : Type} {m m' : M α} {μ : Store} (h : m μ = m' μ) : noErr m μ = noErr m' μ := by
  unfold noErr
  rw [h]
theorem lcLoop_none {g : DenG} {t : DenT} {e : Den} {src : Src} {σ : Mini.Env} {n i : Nat} {acc : List D} {μ : Store} (h : src i μ = none) : lcLoop g t e src σ (n + 1) i acc μ = .stuck := by
  rw [lcLoop]
  dsimp only
  rw [h]
theorem lcLoop_end {g : DenG} {t : DenT} {e : Den} {src : Src} {σ : Mini.Env} {n i : Nat} {acc : List D} {μ : Store} (h : src i μ = some none) : lcLoop g t e src σ (n + 1) i acc μ = .ok acc μ := by
  rw [lcLoop]
  dsimp only
  rw [h]
theorem lcLoop_go {g : DenG} {t : DenT} {e : Den} {src : Src} {σ : Mini.Env} {n i : Nat} {acc : List D} {μ : Store} {d : D} (h : src i μ = some (some d)) : lcLoop g t e src σ (n + 1) i acc μ =
    bnd (g d σ) (fun σ1 => bnd (t σ1) fun b => if b = true then bnd (e σ1) (fun y => if acc.length < lineN then lcLoop g t e src σ n (i + 1) (acc ++ [y]) else stk) else lcLoop g t e src σ n (i + 1) acc) μ := by
  rw [lcLoop]
  dsimp only
  rw [h]
theorem wipe_idem {σ : St} {vs : List Nat} : wipe (wipe σ vs) vs = wipe σ vs := by
  apply List.ext_getElem?
  intro j
  rw [wipe_at (i := 0), wipe_at (i := 0), wipe_length]
  by_cases hj : j ∈ vs ∧ j < σ.length
  · rw [if_pos hj, if_pos hj]
  · rw [if_neg hj]
/-- a list that is no place changes -/
theorem Le.lst {ι : List Addr} {H : Hp} {p : Addr} {ws ws' : List V} (e : H p = some (.lst ws)) : Le ι H ι (upd H p (.lst ws')) := ⟨fun _ _ h => h, fun b o h i => by
  have ne : b ≠ p := by
    rintro rfl
    rw [e] at h
    cases h
    exact i
  rw [upd_ne ne]
  exact h⟩
theorem Ext.upd {ι ι' : List Addr} {H H' : Hp} {p : Addr} {o : HO} (x : Ext ι H ι' H') (h : H p = none) : Ext ι H ι' (upd H' p o) :=
  ⟨x.pre, fun b u q n => by rw [upd_ne (ne_of_none q h)]; exact x.old b u q n, x.new, fun b u q i => by rw [upd_ne (ne_of_none q h)]; exact x.imm b u q i⟩
theorem Sd.lst {ι : List Addr} {H : Hp} {μ : Store} {p : Addr} {ws ws' : List V} (s : Sd G μ ι H) (e : H p = some (.lst ws)) (n : p ∉ ι) : Sd G μ ι (upd H p (.lst ws')) :=
  ⟨s.len, s.nd, fun m o a e1 e2 => (s.ob m o a e1 e2).le (Le.lst e) fun u q => by
    have ne : a ≠ p := by
      rintro rfl
      exact n (List.mem_of_getElem? e2)
    rw [upd_ne ne]
    exact q⟩
section lc
variable {elt tg iter : Expr} {ifs : List Expr} {scope : Scope} {own : List (Str × Nat)} {spos : Pos} {mi : DenI} {mg : DenG} {mt : DenT} {me : Den} {sl : List Nat}
theorem Out.impX {β : Type} {σ : St} {ι : List Addr} {H : Hp} {R R' : β → List Addr → Hp → Prop} {r : Res β} (h : Out G W σ ι H R r) (k : ∀ b ι' H', Ext ι H ι' H' → R b ι' H' → R' b ι' H') : Out G W σ ι H R' r := by
  cases r with
  | ok b μ => exact fun ι' H' x s => k _ _ _ x (h ι' H' x s)
  | err c fs μ => exact h
  | stuck => exact h
theorem Out.fstB {α β : Type} {σ : St} {ι : List Addr} {H : Hp} {R : β → List Addr → Hp → Prop} {m : M α} {k : α → M β} {μ : Store} (h : Out G W σ ι H R (bnd m k μ)) : Out G W σ ι H (fun c ι' H' => ∃ μ', Sd G μ' ι' H' ∧ Ext ι H ι' H' ∧ Out G W σ ι H R (k c μ')) (m μ) := by
  unfold bnd at h
  cases e : m μ with
  | ok c μ' =>
    rw [e] at h
    exact fun ι' H' x s => ⟨μ', s, x, h⟩
  | err c fs μ' =>
    rw [e] at h
    exact h
  | stuck =>
    rw [e] at h
    exact h
/-- the reading of a comprehension: the items, then k of them -/
theorem lc_read {σ : St} {H : Hp} {ι : List Addr} {μ : Store} {σd : Mini.Env} {β : Type} {R : β → List Addr → Hp → Prop} {k : List D → M β} {vs : List Nat} (hsl : ∀ j ∈ sl, j ∈ vs)
    (ed : Ed G [] σd σ H ι) (sd : Sd G μ ι H) (o : Out G W σ ι H R (bnd (lcI vs mi mg mt me σd) k μ)) :
    tLc (tI G [] W mi) (tG G [] sl mg) (tT G [] W0 mt) (tE G [] W0 me) vs σ H (fun v H' => ∃ (p : Addr) (ys : List D) (ws : List V) (μ' : Store) (ι' : List Addr), v = .ref p ∧ H' p = some (.lst ws) ∧ p ∉ ι' ∧ H p = none ∧ RpL G H' ι' ys ws ∧ Ext ι H ι' H' ∧ Sd G μ' ι' H' ∧ Out G W σ ι H R (k ys μ')) := by
  unfold lcI at o
  rw [bnd_assoc] at o
  refine ⟨σd, μ, ι, ed, sd, o.fstB.imp fun src ι1 H1 ⟨μ1, s1, x1, o1⟩ J hJ p hp => ?_⟩
  have hpH : H p = none := by
    cases q : H p with
    | none => rfl
    | some u =>
      exfalso
      by_cases m : p ∈ ι
      · obtain ⟨u', e'⟩ := s1.there (x1.sub m)
        rw [hp] at e'
        cases e'
      · have := x1.old p u q m
        rw [hp] at this
        cases this
  refine ⟨fun i m H' => ∃ μ' ι' acc ws, Le ι1 H1 ι' H' ∧ Ext ι H ι' H' ∧ Sd G μ' ι' H' ∧ p ∉ ι' ∧ H' p = some (.lst ws) ∧ RpL G H' ι' acc ws ∧ Out G W σ ι H R (bnd (noErr (lcLoop mg mt me src (wip σd vs) m i acc)) k μ'),
    ⟨1000000000, μ1, ι1, [], [], (Ext.laid hp).le, x1.trans (Ext.laid hp), s1.laid hp, s1.notin hp, upd_same, rfl, o1⟩, ?_⟩
  rintro i m H2 ⟨μ2, ι2, acc, ws, le2, ex2, s2, n2, e2, r2, o2⟩
  cases m with
  | zero => exact o2.elim
  | succ n =>
    have hj := hJ i μ2 ι2 H2 le2 s2
    cases q : src i μ2 with
    | none =>
      exfalso
      rw [bnd_at (m' := stk) (by unfold noErr; rw [lcLoop_none q]; rfl)] at o2
      exact o2
    | some od =>
      cases od with
      | none =>
        left
        refine ⟨hj.1 q, p, acc, ws, μ2, ι2, rfl, e2, n2, hpH, r2, ex2, s2, ?_⟩
        rw [bnd_at (m' := ret acc) (by unfold noErr; rw [lcLoop_end q]; rfl)] at o2
        exact o2
      | some d =>
        right
        obtain ⟨go, yl⟩ := hj.2 d q
        refine ⟨go, fun H' => ∃ μ' ι' acc ws, Le ι1 H1 ι' H' ∧ Ext ι H ι' H' ∧ Sd G μ' ι' H' ∧ p ∉ ι' ∧ H' p = some (.lst ws) ∧ RpL G H' ι' acc ws ∧ Out G W σ ι H R (bnd (noErr (lcLoop mg mt me src (wip σd vs) n (i + 1) acc)) k μ'), fun H' h => ⟨n, Nat.lt_succ_self n, h⟩, fun x H3 y => ?_⟩
        obtain ⟨x3, s3, r3⟩ := yl x H3 y
        -- the turn, as one sequence
        rw [bnd_at (noErr_at (lcLoop_go q)), noErr_bnd, bnd_assoc] at o2
        simp only [noErr_bnd, bnd_assoc] at o2
        refine ⟨d, wip σd vs, μ2, ι2, r3, Ed.wipe (ed.ext (ex2.trans x3)) vs, s3, ?_⟩
        have of := o2.fstB
        cases eg : mg d (wip σd vs) μ2 with
        | err c fs μ' =>
          rw [show noErr (mg d (wip σd vs)) μ2 = .stuck by unfold noErr; rw [eg]] at of
          exact of.elim
        | stuck =>
          rw [show noErr (mg d (wip σd vs)) μ2 = .stuck by unfold noErr; rw [eg]] at of
          exact of.elim
        | ok σ1 μ3 =>
          rw [show noErr (mg d (wip σd vs)) μ2 = .ok σ1 μ3 by unfold noErr; rw [eg]] at of
          intro σ5 ι5 H5 x5 s5 ed5 w5
          have y5 : Ext ι H ι5 H5 := (ex2.trans x3).trans x5
          obtain ⟨μ3', s3', _, o5⟩ := of ι5 H5 y5 s5
          refine ⟨(w5 vs hsl).trans wipe_idem, σ1, μ3', ι5, ed5, s3', ?_⟩
          refine Out.impX (Out.mono y5 (out_noErr (Out.fstB o5))) fun b ι6 H6 x6 h6 => ?_
          obtain ⟨μ6, s6, y6, o6⟩ := h6
          have e6 : Ext ι2 H2 ι6 H6 := (x3.trans x5).trans x6
          have z6 : Ext ι H ι6 H6 := y5.trans x6
          cases b with
          | false =>
            rw [if_neg Bool.false_ne_true] at o6
            refine iteF ?_
            have np6 : p ∉ ι6 := fun m => by
              have z := e6.new p m n2
              rw [e2] at z
              cases z
            exact ⟨μ6, ι6, acc, ws, ⟨fun n a h => e6.le.get _ _ (le2.get _ _ h), fun b o h t => e6.imm b o (le2.imm b o h t) t⟩, z6, s6, np6, e6.old p _ e2 n2, RpL.ext e6 r2, o6⟩
          | true =>
            rw [if_pos rfl] at o6
            refine iteT ?_
            rw [noErr_bnd, bnd_assoc] at o6
            refine ⟨σ1, μ6, ι6, ed5.ext x6, s6, Out.impX (Out.mono z6 (out_noErr (Out.fstB o6))) fun y ι7 H7 x7 h7 => ?_⟩
            obtain ⟨μ7, s7, y7, o7⟩ := h7
            intro v r7
            have e7 : Ext ι2 H2 ι7 H7 := e6.trans x7
            have p7 := e7.old p _ e2 n2
            have r27 := RpL.ext e7 r2
            by_cases hz : acc.length < lineN
            · rw [if_pos hz] at o7
              have np : p ∉ ι7 := fun m => by
                have z := e7.new p m n2
                rw [e2] at z
                cases z
              have le8 : Le ι7 H7 ι7 (upd H7 p (.lst (ws ++ [v]))) := Le.lst p7
              exact ⟨ws, p7, by rw [r27.length, ← line_eq]; exact hz, μ7, ι7, acc ++ [y], ws ++ [v], ⟨fun n a h => e7.le.get _ _ (le2.get _ _ h), fun b o h t => le8.imm b o (e7.imm b o (le2.imm b o h t) t) t⟩, (z6.trans x7).upd hpH, s7.lst p7 np, np, upd_same, (RpL.le le8 r27).append (RpL.one (Rp.le le8 r7)), o7⟩
            · rw [if_neg hz] at o7
              exact o7.elim
theorem tI_mono {m : DenI} {σ : St} {H : Hp} {R R' : It → Hp → Prop} (h : tI G pn W m σ H R) (k : ∀ J H', R J H' → R' J H') : tI G pn W m σ H R' := by
  obtain ⟨σd, μ, ι, ed, sd, o⟩ := h
  exact ⟨σd, μ, ι, ed, sd, o.imp fun src ι' H' q J s => k J H' (q J s)⟩
theorem tLc_mono {g : TG} {tt : TT} {te : TE} {vs : List Nat} {σ : St} {H : Hp} {Q Q' : VK} (h : tLc (tI G pn W mi) g tt te vs σ H Q) (k : ∀ v H', Q v H' → Q' v H') : tLc (tI G pn W mi) g tt te vs σ H Q' :=
  tI_mono h fun J H1 q D hD => by
    obtain ⟨Wv, h0, turn⟩ := q D hD
    refine ⟨Wv, h0, fun i m H w => ?_⟩
    rcases turn i m H w with ⟨a, b⟩ | ⟨a, Nx, b, c⟩
    · exact .inl ⟨a, k _ _ b⟩
    · exact .inr ⟨a, Nx, b, c⟩
theorem je_lc (hc : X.calm = true) (hN : X.N.Nodup) (hi : JI G X [] W tg iter mi) (ok : BlkOk X.N X.env.scope scope own) (hsl : ∀ j ∈ sl, j ∈ own.map (·.2))
    (hg : ∀ (s : Shared) (H : Hp) (C : Addr) (cl : List (Str × Addr)) (fp : List Addr), JG G (X.blk s H scope (compEnvC scope cl C X.env) fp) [] sl tg mg) (ht : ∀ (s : Shared) (H : Hp) (C : Addr) (cl : List (Str × Addr)) (fp : List Addr), PTs (X.blk s H scope (compEnvC scope cl C X.env) fp) ifs (tT G [] W0 mt))
    (he : ∀ (s : Shared) (H : Hp) (C : Addr) (cl : List (Str × Addr)) (fp : List Addr), JE G (X.blk s H scope (compEnvC scope cl C X.env) fp) [] W0 elt me) (hs : ∀ x, foldedSetIterable iter X.env x = pure x) :
    JE G X [] W (.ListComp elt [⟨tg, iter, ifs, 0⟩] scope spos) (cLc (own.map (·.2)) mi mg mt me) :=
  je_te (pe_lc hc hN hi ok hg ht he hs) fun pins s σ H ι μ σd Q I ed sd o => by
    have q := lc_read (mi := mi) (mg := mg) (mt := mt) (me := me) (R := RV G Q) (k := fun ys => alloc (.lst ys)) hsl ed sd o
    refine tLc_mono q fun v H' ⟨p, ys, ws, μ', ι', ev, hp, hn, h0, r, x, s', o'⟩ => ?_
    subst ev
    obtain ⟨k1, k2⟩ := s'.adopt hp hn r
    have x2 : Ext ι H (ι' ++ [p]) H' := by
      obtain ⟨t, rfl⟩ := x.pre
      refine ⟨⟨t ++ [p], by rw [List.append_assoc]⟩, x.old, fun b hb nb => ?_, x.imm⟩
      rcases List.mem_append.mp hb with hb | hb
      · exact x.new b hb nb
      · rw [List.mem_singleton.mp hb]; exact h0
    exact o' _ _ x2 k1 _ ⟨p, k2, rfl⟩
/-- a built-in of one argument, a comprehension -/
theorem je_BLc {id : String} {x : Str} {f : List D → M D} {pf pos : Pos} (hf : VS G X W (.builtin id) f) (hgl : Gl X x) (hm : X.mg x = none) (hv : bootBuiltins x = some (.builtin id)) (hn : x ≠ "__name__") (hdb : (x == ("__debug__" : Str)) = false)
    (hc : X.calm = true) (hN : X.N.Nodup) (hi : JI G X [] W tg iter mi) (ok : BlkOk X.N X.env.scope scope own) (hsl : ∀ j ∈ sl, j ∈ own.map (·.2))
    (hg : ∀ (s : Shared) (H : Hp) (C : Addr) (cl : List (Str × Addr)) (fp : List Addr), JG G (X.blk s H scope (compEnvC scope cl C X.env) fp) [] sl tg mg) (ht : ∀ (s : Shared) (H : Hp) (C : Addr) (cl : List (Str × Addr)) (fp : List Addr), PTs (X.blk s H scope (compEnvC scope cl C X.env) fp) ifs (tT G [] W0 mt))
    (he : ∀ (s : Shared) (H : Hp) (C : Addr) (cl : List (Str × Addr)) (fp : List Addr), JE G (X.blk s H scope (compEnvC scope cl C X.env) fp) [] W0 elt me) (hs : ∀ x, foldedSetIterable iter X.env x = pure x) :
    JE G X [] W (.Call (.Name x pf) [.ListComp elt [⟨tg, iter, ifs, 0⟩] scope spos] [] pos) (cBL f (lcI (own.map (·.2)) mi mg mt me)) :=
  je_mk fun pins s σ H ι μ σd Q I ed sd o => by
    have q := lc_read (mi := mi) (mg := mg) (mt := mt) (me := me) (R := RV G Q) (k := f) hsl ed sd o
    refine wpAny_Call_Name_kw (ld_blt I hgl hm hv ?_ hn hdb)
    refine PyProof.Rows.callWith_builtin1 (thn ((pa_cons (pe_lc hc hN hi ok hg ht he hs) pa_nil rfl).run pos pins s σ H (fun vs H' => ∃ v, vs = [v] ∧ ∃ (p : Addr) (ys : List D) (ws : List V) (μ' : Store) (ι' : List Addr), v = .ref p ∧ H' p = some (.lst ws) ∧ p ∉ ι' ∧ H p = none ∧ RpL G H' ι' ys ws ∧ Ext ι H ι' H' ∧ Sd G μ' ι' H' ∧ Out G W σ ι H (RV G Q) (f ys μ')) I (tLc_mono q fun v H' h => ⟨v, rfl, h⟩)) fun us s1 ⟨vs, H1, I1, r1, v, ev, p, ys, ws, μ', ι', ep, hp, hnp, h0, r, x1, s1', o'⟩ => ?_) rfl rfl
    subst ev ep
    exact hf pins s1 σ H1 ι' μ' ys ws p us Q I1 r1 (.inl (.inl hp)) r s1' (Out.mono x1 o')
theorem je_TyLc {T : String} {x : Str} {f : List D → M D} {pf pos : Pos} (hf : VS G X W (.type T) f) (hgl : Gl X x) (hm : X.mg x = none) (hv : bootBuiltins x = some (.type T)) (hn : x ≠ "__name__") (hdb : (x == ("__debug__" : Str)) = false)
    (hc : X.calm = true) (hN : X.N.Nodup) (hi : JI G X [] W tg iter mi) (ok : BlkOk X.N X.env.scope scope own) (hsl : ∀ j ∈ sl, j ∈ own.map (·.2))
    (hg : ∀ (s : Shared) (H : Hp) (C : Addr) (cl : List (Str × Addr)) (fp : List Addr), JG G (X.blk s H scope (compEnvC scope cl C X.env) fp) [] sl tg mg) (ht : ∀ (s : Shared) (H : Hp) (C : Addr) (cl : List (Str × Addr)) (fp : List Addr), PTs (X.blk s H scope (compEnvC scope cl C X.env) fp) ifs (tT G [] W0 mt))
    (he : ∀ (s : Shared) (H : Hp) (C : Addr) (cl : List (Str × Addr)) (fp : List Addr), JE G (X.blk s H scope (compEnvC scope cl C X.env) fp) [] W0 elt me) (hs : ∀ x, foldedSetIterable iter X.env x = pure x) :
    JE G X [] W (.Call (.Name x pf) [.ListComp elt [⟨tg, iter, ifs, 0⟩] scope spos] [] pos) (cBL f (lcI (own.map (·.2)) mi mg mt me)) :=
  je_mk fun pins s σ H ι μ σd Q I ed sd o => by
    have q := lc_read (mi := mi) (mg := mg) (mt := mt) (me := me) (R := RV G Q) (k := f) hsl ed sd o
    refine wpAny_Call_Name_kw (ld_blt I hgl hm hv ?_ hn hdb)
    refine PyProof.Rows.callWith_type1 (thn ((pa_cons (pe_lc hc hN hi ok hg ht he hs) pa_nil rfl).run pos pins s σ H (fun vs H' => ∃ v, vs = [v] ∧ ∃ (p : Addr) (ys : List D) (ws : List V) (μ' : Store) (ι' : List Addr), v = .ref p ∧ H' p = some (.lst ws) ∧ p ∉ ι' ∧ H p = none ∧ RpL G H' ι' ys ws ∧ Ext ι H ι' H' ∧ Sd G μ' ι' H' ∧ Out G W σ ι H (RV G Q) (f ys μ')) I (tLc_mono q fun v H' h => ⟨v, rfl, h⟩)) fun us s1 ⟨vs, H1, I1, r1, v, ev, p, ys, ws, μ', ι', ep, hp, hnp, h0, r, x1, s1', o'⟩ => ?_) rfl rfl
    subst ev ep
    exact hf pins s1 σ H1 ι' μ' ys ws p us Q I1 r1 (.inl (.inl hp)) r s1' (Out.mono x1 o')
end lc
end
end Mini

set_option Elab.async false
set_option linter.all false
set_option maxRecDepth 100000
set_option maxHeartbeats 4000000
/-! # Mini, part H: statements -/
namespace Mini
open PySem PySem.Spec L2

def FlR (G : Gt) (pn : List (Addr × Obj)) (W : WX) (D : Ends) (ι : List Addr) (H : Hp) : Fl → Prop
  | .nx σd => ∀ σ, Ed G pn σd σ H ι → D.nx σ H
  | .rt d => ∀ v, Rp G H ι d v → D.rt v H
  | .bk σd => ∀ σ, Ed G pn σd σ H ι → D.bk σ H
  | .ct σd => ∀ σ, Ed G pn σd σ H ι → D.ct σ H
  | .ex c fs σd => ∀ σ od, Ed G pn σd σ H ι → XdR G c fs od H → W (.ref (G.excA c)) od σ H
def OutS (G : Gt) (pn : List (Addr × Obj)) (W : WX) (ι : List Addr) (H : Hp) (D : Ends) : Res Fl → Prop
  | .ok f μ => ∀ ι' H', Ext ι H ι' H' → Sd G μ ι' H' → FlR G pn W D ι' H' f
  | _ => False
def tS (G : Gt) (pn : List (Addr × Obj)) (W : WX) (m : DenS) : TS := fun D σ H => ∃ σd μ ι, Ed G pn σd σ H ι ∧ Sd G μ ι H ∧ OutS G pn W ι H D (m σd μ)
abbrev JS (G : Gt) (X : Cx) (pn : List (Addr × Obj)) (W : WX) (st : Stmt) (m : DenS) : Prop := PS X st (tS G pn W m)
abbrev JSs (G : Gt) (X : Cx) (pn : List (Addr × Obj)) (W : WX) (st : List Stmt) (m : DenS) : Prop := PSs X st (tS G pn W m)
section
variable {G : Gt} {X : Cx} {W : WX} {pn : List (Addr × Obj)} {σ : St} {ι ι1 : List Addr} {H H1 : Hp} {D : Ends} {σd : Mini.Env} {μ : Store}
theorem OutS.mono (e : Ext ι H ι1 H1) {r : Res Fl} (h : OutS G pn W ι H D r) : OutS G pn W ι1 H1 D r := by
  cases r with
  | ok b μ => exact fun ι' H' x s => h ι' H' (e.trans x) s
  | err c fs μ => exact h
  | stuck => exact h
theorem OutS.ret_ {f : Fl} (h : OutS G pn W ι H D (ret f μ)) (sd : Sd G μ ι H) : FlR G pn W D ι H f := h ι H Ext.refl sd
theorem out_lft {α : Type} {m : M α} {k : α → M Fl} (ed : Ed G pn σd σ H ι) (o : OutS G pn W ι H D (lft σd m k μ)) : Out G W σ ι H (fun a ι' H' => ∃ μ', Sd G μ' ι' H' ∧ Ext ι H ι' H' ∧ OutS G pn W ι' H' D (k a μ')) (m μ) := by
  unfold lft at o
  cases e : m μ with
  | ok a μ' =>
    rw [e] at o
    exact fun ι' H' x s => ⟨μ', s, x, OutS.mono x o⟩
  | err c fs μ' =>
    rw [e] at o
    exact fun od ι' H' x s q => o ι' H' x s σ od (ed.ext x) q
  | stuck => rw [e] at o; exact o.elim
theorem outS_bnd {α : Type} {m : M α} {k : α → M Fl} (o : OutS G pn W ι H D (bnd (noErr m) k μ)) : ∃ a μ', m μ = .ok a μ' ∧ OutS G pn W ι H D (k a μ') := by
  unfold bnd noErr at o
  cases e : m μ with
  | ok a μ' =>
    rw [e] at o
    exact ⟨a, μ', rfl, o⟩
  | err c fs μ' => rw [e] at o; exact o.elim
  | stuck => rw [e] at o; exact o.elim
variable {a c e tg iter : Expr} {me : Den} {pos : Pos} {body orelse : List Stmt} {ms mt mb : DenS} {st : Stmt} {rest : List Stmt}
theorem js_nil : JSs G X pn W [] sNil := ⟨fun pins s σ H D I ⟨σd, μ, ι, ed, sd, o⟩ => pss_nil.run pins s σ H D I (o.ret_ sd σ ed)⟩
theorem js_cons (h1 : JS G X pn W st ms) (h2 : JSs G X pn W rest mt) : JSs G X pn W (st :: rest) (sSeq ms mt) :=
  ⟨fun pins s σ H D I ⟨σd, μ, ι, ed, sd, o⟩ => (pss_cons h1 h2).run pins s σ H D I ⟨σd, μ, ι, ed, sd, by
    have o : OutS G pn W ι H D (bnd (ms σd) (fun f => match f with | .nx σ' => mt σ' | f => ret f) μ) := o
    unfold bnd at o
    cases e : ms σd μ with
    | err c fs μ' => rw [e] at o; exact o.elim
    | stuck => rw [e] at o; exact o.elim
    | ok f μ' =>
      rw [e] at o
      intro ι' H' x s'
      cases f with
      | nx σ1 => exact fun σ' ed' => ⟨σ1, μ', ι', ed', s', OutS.mono x o⟩
      | rt d => exact o ι' H' x s'
      | bk σ1 => exact o ι' H' x s'
      | ct σ1 => exact o ι' H' x s'
      | ex c fs σ1 => exact o ι' H' x s'⟩⟩
theorem js_ret (he : JE G X pn W e me) : JS G X pn W (.Return (some e) pos) (sRet me) :=
  ⟨fun pins s σ H D I ⟨σd, μ, ι, ed, sd, o⟩ => (ps_ret he).run pins s σ H D I ⟨σd, μ, ι, ed, sd, (out_lft ed o).imp fun d ι' H' ⟨μ', s', x, q⟩ v r => q.ret_ s' v r⟩⟩
theorem js_retN : JS G X pn W (.Return none pos) sRetN :=
  ⟨fun pins s σ H D I ⟨σd, μ, ι, ed, sd, o⟩ => ps_retN.run pins s σ H D I (o.ret_ sd .non rfl)⟩
theorem js_pass : JS G X pn W (.Pass pos) sNil := ⟨fun pins s σ H D I ⟨σd, μ, ι, ed, sd, o⟩ => ps_pass.run pins s σ H D I (o.ret_ sd σ ed)⟩
theorem js_brk : JS G X pn W (.Break pos) sBrk := ⟨fun pins s σ H D I ⟨σd, μ, ι, ed, sd, o⟩ => ps_break.run pins s σ H D I (o.ret_ sd σ ed)⟩
theorem js_cnt : JS G X pn W (.Continue pos) sCnt := ⟨fun pins s σ H D I ⟨σd, μ, ι, ed, sd, o⟩ => ps_continue.run pins s σ H D I (o.ret_ sd σ ed)⟩
theorem js_exp (he : JE G X pn W e me) (hs : swapsWith e none pos.line X.env = pure false) : JS G X pn W (.Expr e pos) (sExp me) :=
  ⟨fun pins s σ H D I ⟨σd, μ, ι, ed, sd, o⟩ => (ps_expr he hs).run pins s σ H D I ⟨σd, μ, ι, ed, sd, (out_lft ed o).imp fun d ι' H' ⟨μ', s', x, q⟩ v r => q.ret_ s' σ (ed.ext x)⟩⟩
theorem js_if {tc : DenT} (hc : JT G X pn W c tc) (ha : JSs G X pn W body ms) (hb : JSs G X pn W orelse mt) : JS G X pn W (.If c body orelse pos) (sIf tc ms mt) :=
  ⟨fun pins s σ H D I ⟨σd, μ, ι, ed, sd, o⟩ => (ps_if hc ha hb).run pins s σ H D I ⟨σd, μ, ι, ed, sd, (out_lft ed o).imp fun k ι' H' ⟨μ', s', x, q⟩ => by
    cases k with
    | true =>
      rw [if_pos rfl] at q
      exact iteT ⟨σd, μ', ι', ed.ext x, s', q⟩
    | false =>
      rw [if_neg Bool.false_ne_true] at q
      exact iteF ⟨σd, μ', ι', ed.ext x, s', q⟩⟩⟩
theorem asg_end {sl : List Nat} {mg : DenG} {d : Mini.D} {v : V} (ed : Ed G pn σd σ H ι) (sd : Sd G μ ι H) (r : Rp G H ι d v) (o : OutS G pn W ι H D (bnd (noErr (mg d σd)) (fun σ' => ret (.nx σ')) μ)) : tG G pn sl mg v σ H D.nx := by
  obtain ⟨σ1, μ1, e1, o1⟩ := outS_bnd o
  refine ⟨d, σd, μ, ι, r, ed, sd, ?_⟩
  rw [e1]
  exact fun σ' ι' H' x s' ed' _ => o1 ι' H' x s' σ' ed'
theorem js_asg {sl : List Nat} {mg : DenG} (he : JE G X pn W e me) (hg : JG G X pn sl tg mg) (hs : swapsWithSole [tg] e pos.line X.env = pure false) (hw : swappedStores [tg] e X.env = pure none) (h1 : (assignEach [tg] X.env).map (·.2) = [assign tg X.env]) : JS G X pn W (.Assign [tg] e pos) (sAsg mg me) :=
  ⟨fun pins s σ H D I ⟨σd, μ, ι, ed, sd, o⟩ => (ps_asg he hg hs hw h1).run pins s σ H D I ⟨σd, μ, ι, ed, sd, (out_lft ed o).imp fun d ι' H' ⟨μ', s', x, q⟩ v r => asg_end (ed.ext x) s' r q⟩⟩
theorem js_par {i j : Nat} {x y : Str} {b : Expr} {da : DenA} {px py pt : Pos} {kt k2 : Nat} {pt2 : Pos} (hc : X.calm = true) (hN : X.N.Nodup) (hi : X.N[i]? = some x) (hj : X.N[j]? = some y) (hij : i ≠ j)
    (hx : X.env.scope.names.lookup x = some .local) (hy : X.env.scope.names.lookup y = some .local) (ha : JA G X pn W [a, b] da)
    (hw : swappedStores [.Tuple [.Name x px, .Name y py] kt pt] (.Tuple [a, b] k2 pt2) X.env = pure (some [x, y])) :
    JS G X pn W (.Assign [.Tuple [.Name x px, .Name y py] kt pt] (.Tuple [a, b] k2 pt2) pos) (sPar i j da) :=
  ⟨fun pins s σ H D I ⟨σd, μ, ι, ed, sd, o⟩ => (ps_par hc hN hi hj hij hx hy ha hw rfl).run pins s σ H D I ⟨σd, μ, ι, ed, sd, (out_lft ed o).imp fun ds ι' H' ⟨μ', s', x, q⟩ vs r => by
    match ds, r, q with
    | [], r, q => exact q.elim
    | [_], r, q => exact q.elim
    | _ :: _ :: _ :: _, r, q => exact q.elim
    | [d1, d2], r, q =>
      obtain ⟨v, w, rfl, r1, r2⟩ := rpl2 r
      exact ⟨v, w, rfl, q.ret_ s' _ (((ed.ext x).set r1).set r2)⟩⟩⟩
/-! ### raise -/
theorem js_raise {x m : Str} {j cn : Nat} {p p2 p3 : Pos} {bmB : List Value} {B newId initId : String} (hc : X.calm = true) (tk : Takes X W) (F : ExcBaseFacts B newId initId bmB) (q : PySem.W.excIn X.K (G.excA cn) bmB newId = true) (gC : X.mg x = some (.ref (G.excA cn))) (kC : PySem.W.keepIn X.K (.ref (G.excA cn)) = true)
    (r : Raises X (.ref (G.excA cn))) (hg : Gl X x) (hdb : (x == ("__debug__" : Str)) = false) : JS G X pn W (.Raise (some (.Call (.Name x p) [.Constant (.str m) j p2] [] p3)) none pos) (sRaise cn) :=
  ⟨fun pins s σ H D I ⟨σd, μ, ι, ed, sd, o⟩ => (ps_raise hc tk (pmk_own F q gC kC r hg hdb)).run pins s σ H D I (o.ret_ sd σ none ed (.inl ⟨rfl, rfl⟩))⟩
/-! ### loops -/
theorem forLoop_none {g : DenG} {b : DenS} {src : Src} {σ : Mini.Env} {n i : Nat} {μ : Store} (h : src i μ = none) : forLoop g b src (n + 1) i σ μ = .stuck := by
  rw [forLoop]
  dsimp only
  rw [h]
theorem forLoop_end {g : DenG} {b : DenS} {src : Src} {σ : Mini.Env} {n i : Nat} {μ : Store} (h : src i μ = some none) : forLoop g b src (n + 1) i σ μ = .ok (.nx σ) μ := by
  rw [forLoop]
  dsimp only
  rw [h]
def forNext (g : DenG) (b : DenS) (src : Src) (n i : Nat) (f : Fl) : M Fl := match f with
  | .nx σ2 => forLoop g b src n (i + 1) σ2
  | .ct σ2 => forLoop g b src n (i + 1) σ2
  | .bk σ2 => ret (.nx σ2)
  | .rt d => ret (.rt d)
  | .ex c fs σ2 => ret (.ex c fs σ2)
theorem forLoop_go {g : DenG} {b : DenS} {src : Src} {σ : Mini.Env} {n i : Nat} {μ : Store} {d : Mini.D} (h : src i μ = some (some d)) : forLoop g b src (n + 1) i σ μ = bnd (noErr (g d σ)) (fun σ1 => bnd (b σ1) (forNext g b src n i)) μ := by
  rw [forLoop]
  dsimp only
  rw [h]
  rfl
theorem js_for {sl : List Nat} {mi : DenI} {mg : DenG} (hp : PassesOwn (model X.prog X.w) X.A X.env X.xe) (hc : X.calm = true) (hi : JI G X pn W tg iter mi) (hg : JG G X pn sl tg mg) (hb : JSs G X pn W body mb)
    (hs : ∀ x, foldedSetIterable iter X.env x = pure x) : JS G X pn W (.For tg iter body [] pos) (sFor mi mg mb) :=
  ⟨fun pins s σ H D I ⟨σd, μ, ι, ed, sd, o⟩ => (ps_for hp hc hi hg hb hs).run pins s σ H D I ⟨σd, μ, ι, ed, sd, (out_lft ed o).imp fun src ι1 H1 ⟨μ1, s1, x1, o1⟩ J hJ => by
    refine ⟨fun i m σ' H' => ∃ σd' μ' ι', Ext ι1 H1 ι' H' ∧ Ed G pn σd' σ' H' ι' ∧ Sd G μ' ι' H' ∧ OutS G pn W ι' H' D (forLoop mg mb src m i σd' μ'), ⟨1000000000, σd, μ1, ι1, Ext.refl, ed.ext x1, s1, o1⟩, ?_⟩
    rintro i m σ2 H2 ⟨σd2, μ2, ι2, x2, ed2, s2, o2⟩
    cases m with
    | zero => exact o2.elim
    | succ n =>
      have hj := hJ i μ2 ι2 H2 x2.le s2
      cases q : src i μ2 with
      | none => rw [forLoop_none q] at o2; exact o2.elim
      | some od =>
        cases od with
        | none =>
          rw [forLoop_end q] at o2
          exact .inl ⟨hj.1 q, o2 ι2 H2 Ext.refl s2 σ2 ed2⟩
        | some d =>
          rw [forLoop_go q] at o2
          obtain ⟨go, yl⟩ := hj.2 d q
          refine .inr ⟨go, fun σ' H' => ∃ σd' μ' ι', Ext ι1 H1 ι' H' ∧ Ed G pn σd' σ' H' ι' ∧ Sd G μ' ι' H' ∧ OutS G pn W ι' H' D (forLoop mg mb src n (i + 1) σd' μ'), fun σ' H' h => ⟨n, Nat.lt_succ_self n, h⟩, fun x H3 y => ?_⟩
          obtain ⟨x3, s3, r3⟩ := yl x H3 y
          obtain ⟨σd3, μ3, e3, o3⟩ := outS_bnd o2
          refine ⟨d, σd2, μ2, ι2, r3, ed2.ext x3, s3, ?_⟩
          rw [e3]
          intro σ4 ι4 H4 x4 s4 ed4 _
          have x24 : Ext ι2 H2 ι4 H4 := x3.trans x4
          refine ⟨σd3, μ3, ι4, ed4, s4, ?_⟩
          have o4 := OutS.mono x24 o3
          unfold bnd at o4
          cases eb : mb σd3 μ3 with
          | err c fs μ' => rw [eb] at o4; exact o4.elim
          | stuck => rw [eb] at o4; exact o4.elim
          | ok f μ5 =>
            rw [eb] at o4
            intro ι5 H5 x5 s5
            have x25 := (x2.trans x24).trans x5
            cases f with
            | nx σ5 => exact fun σ' ed' => ⟨σ5, μ5, ι5, x25, ed', s5, OutS.mono x5 o4⟩
            | ct σ5 => exact fun σ' ed' => ⟨σ5, μ5, ι5, x25, ed', s5, OutS.mono x5 o4⟩
            | bk σ5 => exact fun σ' ed' => o4 ι5 H5 x5 s5 σ' ed'
            | rt d5 => exact o4 ι5 H5 x5 s5
            | ex c fs σ5 => exact o4 ι5 H5 x5 s5⟩⟩
def whileNext (c : DenT) (b : DenS) (n : Nat) (f : Fl) : M Fl := match f with
  | .nx σ2 => whileLoop c b n σ2
  | .ct σ2 => whileLoop c b n σ2
  | .bk σ2 => ret (.nx σ2)
  | .rt d => ret (.rt d)
  | .ex c fs σ2 => ret (.ex c fs σ2)
theorem whileLoop_succ {c : DenT} {b : DenS} {n : Nat} {σ : Mini.Env} : whileLoop c b (n + 1) σ = lft σ (c σ) fun k => if k = true then bnd (b σ) (whileNext c b n) else ret (.nx σ) := rfl
theorem js_while {tc : DenT} (hp : PassesOwn (model X.prog X.w) X.A X.env X.xe) (hc : JT G X pn W c tc) (hb : JSs G X pn W body mb) : JS G X pn W (.While c body [] pos) (sWhile tc mb) :=
  ⟨fun pins s σ H D I ⟨σd, μ, ι, ed, sd, o⟩ => (ps_while hp hc hb).run pins s σ H D I (by
    refine ⟨fun m σ' H' => ∃ σd' μ' ι', Ed G pn σd' σ' H' ι' ∧ Sd G μ' ι' H' ∧ OutS G pn W ι' H' D (whileLoop tc mb m σd' μ'), ⟨1000000000, σd, μ, ι, ed, sd, o⟩, ?_⟩
    rintro m σ2 H2 ⟨σd2, μ2, ι2, ed2, s2, o2⟩
    cases m with
    | zero => exact o2.elim
    | succ n =>
      rw [whileLoop_succ] at o2
      refine ⟨σd2, μ2, ι2, ed2, s2, (out_lft ed2 o2).imp fun k ι3 H3 ⟨μ3, s3, x3, o3⟩ => ?_⟩
      cases k with
      | false =>
        rw [if_neg Bool.false_ne_true] at o3
        exact iteF (o3.ret_ s3 σ2 (ed2.ext x3))
      | true =>
        rw [if_pos rfl] at o3
        refine iteT ⟨fun σ' H' => ∃ σd' μ' ι', Ed G pn σd' σ' H' ι' ∧ Sd G μ' ι' H' ∧ OutS G pn W ι' H' D (whileLoop tc mb n σd' μ'), fun σ' H' h => ⟨n, Nat.lt_succ_self n, h⟩, σd2, μ3, ι3, ed2.ext x3, s3, ?_⟩
        unfold bnd at o3
        cases eb : mb σd2 μ3 with
        | err c fs μ' => rw [eb] at o3; exact o3.elim
        | stuck => rw [eb] at o3; exact o3.elim
        | ok f μ5 =>
          rw [eb] at o3
          intro ι5 H5 x5 s5
          cases f with
          | nx σ5 => exact fun σ' ed' => ⟨σ5, μ5, ι5, ed', s5, OutS.mono x5 o3⟩
          | ct σ5 => exact fun σ' ed' => ⟨σ5, μ5, ι5, ed', s5, OutS.mono x5 o3⟩
          | bk σ5 => exact fun σ' ed' => o3 ι5 H5 x5 s5 σ' ed'
          | rt d5 => exact o3 ι5 H5 x5 s5
          | ex c fs σ5 => exact o3 ι5 H5 x5 s5)⟩
/-! ### name = [..] on one line -/
theorem js_lc {elt : Expr} {ifs : List Expr} {scope : Scope} {own : List (Str × Nat)} {lpos py : Pos} {mi : DenI} {mg : DenG} {tt : DenT} {me : Den} {sl : List Nat} {i : Nat} {y : Str}
    (hc : X.calm = true) (hN : X.N.Nodup) (hy : X.N[i]? = some y) (hyl : X.env.scope.names.lookup y = some .local) (hsw : swapsWith (.ListComp elt [⟨tg, iter, ifs, 0⟩] scope lpos) (some (.Name y py)) pos.line X.env = pure true)
    (hi : JI G X [] W tg iter mi) (ok : BlkOk X.N X.env.scope scope own) (hsl : ∀ j ∈ sl, j ∈ own.map (·.2))
    (hg : ∀ (s : Shared) (H : Hp) (C : Addr) (cl : List (Str × Addr)) (fp : List Addr), JG G (X.blk s H scope (compEnvC scope cl C X.env) fp) [] sl tg mg) (ht : ∀ (s : Shared) (H : Hp) (C : Addr) (cl : List (Str × Addr)) (fp : List Addr), PTs (X.blk s H scope (compEnvC scope cl C X.env) fp) ifs (tT G [] W0 tt))
    (he : ∀ (s : Shared) (H : Hp) (C : Addr) (cl : List (Str × Addr)) (fp : List Addr), JE G (X.blk s H scope (compEnvC scope cl C X.env) fp) [] W0 elt me) (hs : ∀ x, foldedSetIterable iter X.env x = pure x) :
    JS G X [] W (.Assign [.Name y py] (.ListComp elt [⟨tg, iter, ifs, 0⟩] scope lpos) pos) (sAsg (gN i) (cLc (own.map (·.2)) mi mg tt me)) :=
  ⟨fun pins s σ H D I ⟨σd, μ, ι, ed, sd, o⟩ => (ps_setLc hc hN hy hyl hsw hi ok hg ht he hs).run pins s σ H D I (by
    have o1 := out_lft ed o
    have o2 : Out G W σ ι H _ (bnd (lcI (own.map (·.2)) mi mg tt me σd) (fun ys => alloc (.lst ys)) μ) := o1
    have q := lc_read hsl ed sd o2
    refine tLc_mono q fun v H' ⟨p, ys, ws, μ', ι', ev, hp, hn, h0, r, x, s', o'⟩ => ?_
    subst ev
    obtain ⟨k1, k2⟩ := s'.adopt hp hn r
    have x2 : Ext ι H (ι' ++ [p]) H' := by
      obtain ⟨t, rfl⟩ := x.pre
      refine ⟨⟨t ++ [p], by rw [List.append_assoc]⟩, x.old, fun b hb nb => ?_, x.imm⟩
      rcases List.mem_append.mp hb with hb | hb
      · exact x.new b hb nb
      · rw [List.mem_singleton.mp hb]; exact h0
    obtain ⟨μ2, s2, _, o3⟩ := o' _ _ x2 k1
    obtain ⟨σ1, μ1, e1, o4⟩ := outS_bnd o3
    have e1 : Res.ok (σd.set i (some (Mini.D.loc μ'.length))) μ2 = Res.ok σ1 μ1 := e1
    cases e1
    exact o4 _ _ Ext.refl s2 _ ((ed.ext x2).set ⟨p, k2, rfl⟩))⟩
end
end Mini

set_option Elab.async false
set_option linter.all false
set_option maxRecDepth 100000
set_option maxHeartbeats 4000000
/-! # Mini, part I: try, isinstance of what is caught -/
namespace Mini
open PySem PySem.Spec L2

theorem Ev.pn {G : Gt} {pn pn' : List (Addr × Obj)} {H : Hp} {ι : List Addr} {d : D} {v : V} (k : ∀ q ∈ pn, q ∈ pn') (h : Ev G pn H ι d v) : Ev G pn' H ι d v := by
  rcases h with h | ⟨c, fs, a, oe, od, h1, h2, h3, h4, h5, h6⟩
  · exact .inl h
  · exact .inr ⟨c, fs, a, oe, od, h1, h2, k _ h3, h4, h5, h6⟩
theorem Ed.pn {G : Gt} {pn pn' : List (Addr × Obj)} {H : Hp} {ι : List Addr} {σd : Mini.Env} {σ : St} (k : ∀ q ∈ pn, q ∈ pn') (h : Ed G pn σd σ H ι) : Ed G pn' σd σ H ι :=
  ⟨h.1, fun i d q => by
    obtain ⟨v, h1, h2⟩ := h.2 i d q
    exact ⟨v, h1, h2.pn k⟩⟩
theorem Ed.setE {G : Gt} {pn : List (Addr × Obj)} {H : Hp} {ι : List Addr} {σd : Mini.Env} {σ : St} {i : Nat} {d : D} {v : V} (h : Ed G pn σd σ H ι) (r : Ev G pn H ι d v) : Ed G pn (σd.set i (some d)) (σ.set i (some v)) H ι := by
  refine ⟨by rw [List.length_set, List.length_set]; exact h.1, fun j d' q => ?_⟩
  by_cases e : i = j
  · subst e
    by_cases hl : i < σd.length
    · rw [List.getElem?_set_self hl] at q
      cases q
      exact ⟨v, List.getElem?_set_self (by rw [← h.1]; exact hl), r⟩
    · rw [List.getElem?_eq_none (by rw [List.length_set]; omega)] at q
      cases q
  · rw [List.getElem?_set_ne e] at q ⊢
    exact h.2 j d' q
section
variable {G : Gt} {X : Cx} {W : WX}
theorem js_try {x n : Str} {cn i : Nat} {sup : Nat → Nat → Option Bool} {body suite : List Stmt} {b₀ : Stmt} {np pos pos' : Pos} {mb mh : DenS} (hK : X.K = G.K) (hs : X.stack = X.env :: X.outer) (hf : X.env.frame = some X.env.locals) (hN : X.N.Nodup) (hi : X.N[i]? = some n) (hln : X.env.kindOf n = some .local) (hc : Names X x (.ref (G.excA cn))) (tk : Takes X W)
    (hsup : ∀ e b, sup e cn = some b → PySem.W.exmOne G.K (.ref (G.excA e)) (.ref (G.excA cn)) = some b)
    (hb : ∀ (W : WX) (pn : List (Addr × Obj)) (xe : Value → Shared → Prop), Takes (X.tr pn xe) W → PassesOwn (model X.prog X.w) X.A X.env xe → JSs G (X.tr pn xe) [] W body mb)
    (hsu : ∀ (a : Addr) (oe : Obj) (pn : List (Addr × Obj)), JSs G (X.suite a ((a, oe) :: pn)) [(a, oe)] W0 (b₀ :: suite) mh) :
    JS G X [] W (.Try body [.ExceptHandler (some (.Name x np)) (some n) (b₀ :: suite) pos'] [] [] pos) (sTry sup mb cn i mh) :=
  ⟨fun pins s σ H D I ⟨σd, μ, ι, ed, sd, o⟩ => by
    refine (ps_try_as (ts := fun a cls d D σ H => ∀ oe, Zc cls d oe → (∃ vs, oe.data = .fields vs) → tS G [(a, oe)] W0 mh D σ H) hs hf hN hi hln hc tk hb (fun a oe cls d pn hz hfs => ⟨fun pins s σ H D I h => (hsu a oe pn).run pins s σ H D I (h oe hz hfs)⟩)).run pins s σ H D I ⟨σd, μ, ι, ed, sd, ?_⟩
    have o : OutS G [] W ι H D (bnd (mb σd) (fun f => match f with
      | .ex e fs σ1 => bnd (optM (sup e cn)) fun k => if k = true then bnd (mh (σ1.set i (some (.exn e fs)))) fun f => match f with
          | .rt d => ret (.rt d)
          | _ => stk else ret (.ex e fs σ1)
      | f => ret f) μ) := o
    unfold bnd at o
    cases em : mb σd μ with
    | err c fs μ' => rw [em] at o; exact o.elim
    | stuck => rw [em] at o; exact o.elim
    | ok f μ' =>
      rw [em] at o
      cases f with
      | nx σ1 => exact o
      | rt d => exact o
      | bk σ1 => exact o
      | ct σ1 => exact o
      | ex e fs σ1 =>
        intro ι' H' x' s' σ' od ed' xd
        dsimp only at o
        cases es : sup e cn with
        | none => rw [es] at o; exact o.elim
        | some b =>
          rw [es] at o
          refine ⟨b, by rw [hK]; exact hsup e b es, fun hb1 a na oe hz hfs => ?_, fun hb0 => ?_⟩
          · subst hb1
            refine ⟨σ1.set i (some (.exn e fs)), μ', ι', (ed'.pn fun q hq => by cases hq).setE (.inr ⟨e, fs, a, oe, od, rfl, rfl, List.mem_cons_self, hz, hfs, xd⟩), s', ?_⟩
            dsimp only [optM, bnd] at o
            rw [if_pos rfl] at o
            cases eh : mh (σ1.set i (some (.exn e fs))) μ' with
            | err c fs μ2 => rw [eh] at o; exact o.elim
            | stuck => rw [eh] at o; exact o.elim
            | ok f2 μ2 =>
              rw [eh] at o
              cases f2 with
              | rt d => exact fun ι2 H2 x2 s2 => o ι2 H2 (x'.trans x2) s2
              | nx _ => exact o.elim
              | bk _ => exact o.elim
              | ct _ => exact o.elim
              | ex _ _ _ => exact o.elim
          · subst hb0
            dsimp only [optM, bnd] at o
            rw [if_neg Bool.false_ne_true] at o
            exact o ι' H' x' s' σ' od ed' xd⟩
/-! ### isinstance of what is caught -/
/-- what is asked of an exception class -/
def excG (K : PySem.W.Frag) (D : Addr) : Bool := (PySem.W.clsIn K D).isSome && (decide (PySem.W.findIn K (.ref D) "__getattribute__" = some (some (.builtin "BaseException.__getattribute__"))) && (decide (PySem.W.findIn K (.ref D) "__getattr__" = some none) &&
  (decide (PySem.W.subIn K (.ref D) (.type "BaseException") = some true) && (PySem.W.hasDictIn K D && (decide (PySem.W.findIn K (.ref D) "__class__" = some (some (.builtin "object.__class__"))) &&
  (decide (PySem.W.specialIn K (.builtin "object.__class__") "__get__" = some (some (.builtin "getset_descriptor.__get__"))) && (decide (PySem.W.takesIn K (.builtin "object.__class__") = some true) && decide (PySem.W.mroIn K D (.type "object") = some true))))))))
structure ExcG (K : PySem.W.Frag) (D : Addr) : Prop where
  hc : (PySem.W.clsIn K D).isSome = true
  hg : PySem.W.findIn K (.ref D) "__getattribute__" = some (some (.builtin "BaseException.__getattribute__"))
  hk : PySem.W.findIn K (.ref D) "__getattr__" = some none
  hs : PySem.W.subIn K (.ref D) (.type "BaseException") = some true
  hd : PySem.W.hasDictIn K D = true
  ha : PySem.W.findIn K (.ref D) "__class__" = some (some (.builtin "object.__class__"))
  hn : PySem.W.specialIn K (.builtin "object.__class__") "__get__" = some (some (.builtin "getset_descriptor.__get__"))
  ht : PySem.W.takesIn K (.builtin "object.__class__") = some true
  hm : PySem.W.mroIn K D (.type "object") = some true
theorem excG_ok {K : PySem.W.Frag} {D : Addr} (h : excG K D = true) : ExcG K D := by
  unfold excG at h
  simp only [Bool.and_eq_true, decide_eq_true_eq] at h
  obtain ⟨h1, h2, h3, h4, h5, h6, h7, h8, h9⟩ := h
  exact ⟨h1, h2, h3, h4, h5, h6, h7, h8, h9⟩
variable {pn : List (Addr × Obj)}
/-- the caught exception as an instance -/
theorem ev_inst {pins : List (Addr × Obj)} {σ : St} {H : Hp} {s : Shared} {c : Nat} {fs : List D} {a : Addr} {oe : Obj} {od : Option Addr} (I : Inv X pins σ H s) (hp : (a, oe) ∈ X.pn) (hz : Zc (.ref (G.excA c)) od oe) (hf : ∃ vs, oe.data = .fields vs) (xd : XdR G c fs od H) :
    ∃ o, PySem.W.InstAt s.heap a oe (G.excA c) o := by
  obtain ⟨hget, _⟩ := I.pin (a, oe) (List.mem_append.mpr (.inl hp))
  obtain ⟨vs, hd⟩ := hf
  have hno : PySem.W.notCls oe = true := by unfold PySem.W.notCls; rw [hd] <;> rfl
  rcases xd with ⟨_, rfl⟩ | ⟨dx, ws, _, rfl, h2, _⟩
  · exact ⟨none, hget, hz.1, hno, by rw [hz.2]; trivial⟩
  · have hx : ObjOk X.prog X.w H s.heap dx (.xd ((G.excF c).zip ws)) := I.hok dx _ h2
    obtain ⟨mA, hns, hr⟩ := hx
    obtain ⟨o, ho, _⟩ := lookIn_ns hns
    exact ⟨some o, hget, hz.1, hno, by rw [hz.2]; exact ho⟩
theorem ev_exn {H : Hp} {ι : List Addr} {c : Nat} {fs : List D} {v : V} (h : Ev G pn H ι (.exn c fs) v) : ∃ a oe od, v = .ref a ∧ (a, oe) ∈ pn ∧ Zc (.ref (G.excA c)) od oe ∧ (∃ vs, oe.data = .fields vs) ∧ XdR G c fs od H := by
  rcases h with h | ⟨c', fs', a, oe, od, h1, h2, h3, h4, h5, h6⟩
  · exact h.elim
  · cases h1
    exact ⟨a, oe, od, h2, h3, h4, h5, h6⟩
def rEx (X : Cx) (G : Gt) : List V → Hp → VK → Prop := fun xs H Q => ∃ (c : Nat) (fs : List D) (a : Addr) (oe : Obj) (od : Option Addr) (t : V) (tv : Value) (b : Bool), xs = [.ref a, t] ∧ (a, oe) ∈ X.pn ∧ Zc (.ref (G.excA c)) od oe ∧ (∃ vs, oe.data = .fields vs) ∧ XdR G c fs od H ∧ ExcG X.K (G.excA c) ∧
  RelV t tv ∧ (∀ u, RelV t u → u = tv) ∧ PySem.W.kitOne X.K (.ref (G.excA c)) tv = some b ∧ Q (.bl b) H
theorem call_ex : CallR X (.builtin "isinstance") (rEx X G) := by
  intro pins s σ H xs us Q I r h
  obtain ⟨c, fs, a, oe, od, t, tv, b, rfl, hp, hz, hf, xd, E, rt, ht, e, q⟩ := h
  obtain ⟨u1, u2, rfl, r1, r2⟩ := vals2 r
  cases (show u1 = Value.ref a from r1)
  have := ht _ r2
  subst this
  obtain ⟨o, J⟩ := ev_inst I hp hz hf xd
  exact PySem.W.kia_one (PySem.W.kitx_exc E.hc E.hg E.hk E.hs E.ha E.hn E.ht E.hm) I.kIn J e (fun z => nomatch z) fun tk => ⟨.bl b, H, I.kept (t' := tk) fun _ _ z => z, rfl, q⟩
def rExT (X : Cx) (G : Gt) : List V → Hp → VK → Prop := fun xs H Q => ∃ (c : Nat) (fs : List D) (a : Addr) (oe : Obj) (od : Option Addr) (tp : Addr) (cs : List V) (ws : List Value) (b : Bool), xs = [.ref a, .ref tp] ∧ (a, oe) ∈ X.pn ∧ Zc (.ref (G.excA c)) od oe ∧ (∃ vs, oe.data = .fields vs) ∧ XdR G c fs od H ∧ ExcG X.K (G.excA c) ∧
  H tp = some (.tup cs) ∧ Paired ClsV cs ws ∧ PySem.W.kitAny X.K (.ref (G.excA c)) ws = some b ∧ Q (.bl b) H
theorem call_exT : CallR X (.builtin "isinstance") (rExT X G) := by
  intro pins s σ H xs us Q I r h
  obtain ⟨c, fs, a, oe, od, tp, cs, ws, b, rfl, hp, hz, hf, xd, E, hT, k, e, q⟩ := h
  obtain ⟨u1, u2, rfl, r1, r2⟩ := vals2 r
  cases (show u1 = Value.ref a from r1)
  cases (show u2 = Value.ref tp from r2)
  obtain ⟨o', J⟩ := ev_inst I hp hz hf xd
  obtain ⟨_, its, rv, o, h1, h2, n, h3⟩ := (show ObjOk X.prog X.w H s.heap tp (.tup cs) from I.hok tp _ hT)
  have e3 := ClsV.all k rv
  subst e3
  obtain ⟨oc, od, dt, sl⟩ := o
  simp only at h2 h3
  subst h2 h3
  exact PySem.W.kia_tup (PySem.W.kitx_exc E.hc E.hg E.hk E.hs E.ha E.hn E.ht E.hm) I.kIn J h1 e (fun z => nomatch z) fun tk => ⟨.bl b, H, I.tok tk, rfl, q⟩
/-- the table of exception classes is as it is told -/
def SupOk (G : Gt) (sup : Nat → Nat → Option Bool) : Prop := ∀ c t b, isE sup c t = some b → ExcG G.K (G.excA c) ∧ PySem.W.kitOne G.K (.ref (G.excA c)) (tyVal G t) = some b
theorem isEs_any {sup : Nat → Nat → Option Bool} (hs : SupOk G sup) {c : Nat} : ∀ {ts : List Ty} {b : Bool}, isEs sup c ts = some b → PySem.W.kitAny G.K (.ref (G.excA c)) (ts.map (tyVal G)) = some b
  | [], b, h => by
    unfold isEs at h
    obtain ⟨z, _, rfl⟩ := Option.map_eq_some_iff.mp h
    rfl
  | t :: ts, b, h => by
    unfold isEs at h
    cases e : isE sup c t with
    | none => rw [e] at h; cases h
    | some k =>
      rw [e] at h
      have q := (hs c t k e).2
      cases k with
      | true =>
        cases h
        show PySem.W.kitAny G.K _ (tyVal G t :: ts.map (tyVal G)) = _
        unfold PySem.W.kitAny
        rw [q]
      | false =>
        have ih := isEs_any hs (ts := ts) h
        show PySem.W.kitAny G.K _ (tyVal G t :: ts.map (tyVal G)) = _
        unfold PySem.W.kitAny
        rw [q]
        exact ih
variable {x : Str} {i : Nat} {te : Expr} {p p1 pos : Pos} {sup : Nat → Nat → Option Bool}
theorem je_isE1 {t : Ty} (hK : X.K = G.K) (hs : SupOk G sup) (hpn : ∀ q ∈ pn, q ∈ X.pn) (hN : X.N[i]? = some x) (hv : Vis X.env.scope x) (hd : (x == ("__debug__" : Str)) = false) (hcd : (x == ("__classdict__" : Str)) = false) (hg : Gl X "isinstance") (hm : X.mg "isinstance" = none) (ht : PE X te (tC (tyV' G t)))
    (he2 : starEach [te] X.env = [(false, eval te X.env)]) :
    JE G X pn W (.Call (.Name "isinstance" p) [.Name x p1, te] [] pos) (cIsE1 sup i t) :=
  je_te (pe_callB (call_ex (G := G)) hg hm (by decide +kernel) (pa_cons (pe_var hN hv hd hcd) (pa_cons ht pa_nil (by rw [he2]; rfl)) rfl) (by decide) (by decide) rfl (by rw [he2]; rfl)) fun pins s σ H ι μ σd Q I ed sd o => by
    unfold cIsE1 at o
    cases e : σd[i]? with
    | none => rw [e] at o; exact o.elim
    | some y =>
      rw [e] at o
      cases y with
      | none => exact o.elim
      | some d =>
        cases d with
        | exn c fs =>
          obtain ⟨b, eb, o2⟩ := out_opt o
          obtain ⟨v, h1, h2⟩ := ed.2 i _ e
          obtain ⟨a, oe, od, rfl, h3, h4, h5, h6⟩ := ev_exn h2
          obtain ⟨E, k⟩ := hs c t b eb
          exact ⟨.ref a, h1, c, fs, a, oe, od, _, tyVal G t, b, rfl, hpn _ h3, h4, h5, h6, by rw [hK]; exact E, tyV_rel t, fun u hu => (tyV_cls t).eq hu, by rw [hK]; exact k, out_ret o2 sd rfl⟩
        | _ => exact o.elim
theorem je_isE {ts : List Ty} {tes : List Expr} {k : Nat} {tp : Pos} (hz : ts.length ≤ 100) (hK : X.K = G.K) (hs : SupOk G sup) (hpn : ∀ q ∈ pn, q ∈ X.pn) (hN : X.N[i]? = some x) (hv : Vis X.env.scope x) (hd : (x == ("__debug__" : Str)) = false) (hcd : (x == ("__classdict__" : Str)) = false) (hg : Gl X "isinstance") (hm : X.mg "isinstance" = none)
    (ht : PA X tes (tTys G ts)) : JE G X pn W (.Call (.Name "isinstance" p) [.Name x p1, .Tuple tes k tp] [] pos) (cIsE sup i ts) :=
  je_te (pe_callB (call_exT (G := G)) hg hm (by decide +kernel) (pa_cons (pe_var hN hv hd hcd) (pa_cons (pe_tup ht) pa_nil rfl) rfl) (by decide) (by decide) rfl rfl) fun pins s σ H ι μ σd Q I ed sd o => by
    unfold cIsE at o
    cases e : σd[i]? with
    | none => rw [e] at o; exact o.elim
    | some y =>
      rw [e] at o
      cases y with
      | none => exact o.elim
      | some d =>
        cases d with
        | exn c fs =>
          obtain ⟨b, eb, o2⟩ := out_opt o
          obtain ⟨v, h1, h2⟩ := ed.2 i _ e
          obtain ⟨a, oe, od, rfl, h3, h4, h5, h6⟩ := ev_exn h2
          have E : ExcG G.K (G.excA c) := by
            cases ts with
            | nil =>
              unfold isEs at eb
              obtain ⟨z, hz, _⟩ := Option.map_eq_some_iff.mp eb
              exact (hs c .verr true (by unfold isE; rw [hz]; rfl)).1
            | cons t r =>
              unfold isEs at eb
              cases q : isE sup c t with
              | none => rw [q] at eb; cases eb
              | some k => exact (hs c t k q).1
          refine ⟨.ref a, h1, by rw [List.length_map, ← line_eq]; exact Nat.le_trans hz (by decide), fun p0 hp0 => ?_⟩
          have ex : Ext ι H ι (upd H p0 (.tup (ts.map (tyV' G)))) := Ext.laid hp0
          exact ⟨c, fs, a, oe, od, p0, _, _, b, rfl, hpn _ h3, h4, h5, XdR.le ex.le h6, by rw [hK]; exact E, upd_same, cls_all ts, by rw [hK]; exact isEs_any hs eb, o2 _ _ ex (sd.laid hp0) _ rfl⟩
        | _ => exact o.elim
/-- a field of the caught exception -/
theorem je_fld {n : Str} {fl : Nat → Bool} (hK : X.K = G.K) (hpn : ∀ q ∈ pn, q ∈ X.pn) (hN : X.N[i]? = some x) (hv : Vis X.env.scope x) (hd : (x == ("__debug__" : Str)) = false) (hcd : (x == ("__classdict__" : Str)) = false)
    (hx : ∀ c, fl c = true → XfC G.K (G.excA c) ∧ PySem.W.findIn G.K (.ref (G.excA c)) n = some none ∧ G.excF c = [n]) :
    JE G X pn W (.Attribute (.Name x p1) n pos) (cFld fl i) := by
  refine je_mk fun pins s σ H ι μ σd Q I ed sd o => ?_
  unfold cFld at o
  cases e : σd[i]? with
  | none => rw [e] at o; exact o.elim
  | some y =>
    rw [e] at o
    cases y with
    | none => exact o.elim
    | some d =>
      cases d with
      | exn c fs =>
        dsimp only at o
        split at o
        · rename_i hfl
          obtain ⟨f, ef, o3⟩ := out_opt o
          obtain ⟨v, h1, h2⟩ := ed.2 i _ e
          obtain ⟨a, oe, od, rfl, h3, h4, h5, h6⟩ := ev_exn h2
          obtain ⟨T, hno, hfs⟩ := hx c hfl
          rcases h6 with ⟨hnil, _⟩ | ⟨dx, vs, hne, rfl, hdx, hpl⟩
          · rw [hnil] at ef; cases ef
          · cases fs with
            | nil => cases ef
            | cons f' fr =>
              cases vs with
              | nil => simp at hpl
              | cons v0 vr =>
                simp only [List.map_cons, List.cons.injEq] at hpl
                have hp : plainV f' = some v0 := hpl.1
                have ef : f' = f := by simpa using ef
                subst ef
                have rf : Rp G H ι f' v0 := by
                  cases f' <;> simp only [plainV, Option.some.injEq, reduceCtorEq] at hp <;> exact hp.symm
                have lk : ((G.excF c).zip (v0 :: vr)).lookup n = some v0 := by rw [hfs]; simp
                refine attr_of rfl (thn ((pe_var hN hv hd hcd).run pins s σ H (fun v' H' => v' = .ref a ∧ H' = H) I ⟨_, h1, rfl, rfl⟩) fun u s1 hh => ?_)
                obtain ⟨x', H1, I1, rx, ex, eH⟩ := hh
                subst ex eH
                obtain rfl : u = Value.ref a := rx
                obtain ⟨ha, _⟩ := I1.pin (a, oe) (List.mem_append_left _ (hpn _ h3))
                obtain ⟨vs', hd'⟩ := h5
                have hxd : ObjOk X.prog X.w H1 s1.heap dx (.xd ((G.excF c).zip (v0 :: vr))) := I1.hok dx _ hdx
                obtain ⟨mA, hns, hr⟩ := hxd
                obtain ⟨od', ho, hl'⟩ := lookIn_ns hns
                obtain ⟨u, hu, ru⟩ := RelO.some_of (v := v0) (o := mA n) (by rw [← lk]; exact hr n)
                have J : PySem.W.InstAt s1.heap a oe (G.excA c) (some od') := ⟨ha, h4.1, by unfold PySem.W.notCls; rw [hd'] <;> rfl, by rw [h4.2]; exact ho⟩
                rw [← hK] at T hno
                exact HandSPX.exc_get I1.kIn J T.ga T.gg T.exC (PySem.W.findObj_own T.hdC hno rfl (by rw [hl', hu])) (handed_of ru) ⟨_, H1, I1.tok _, ru, out_ret o3 sd rf⟩
        · exact o.elim
      | _ => exact o.elim
end
end Mini

set_option Elab.async false
set_option linter.all false
set_option maxRecDepth 100000
set_option maxHeartbeats 4000000
/-! # Mini, part X: more rules: sum of a tuple, xs[::-1], list(range(..)) at any size -/
namespace PySem
open Sem (wp)
open AutoSeq1 (wpAny_loadPart')
section
variable {prog : Program} {w : World} {A : Around} {E : Value → Shared → Prop} {s : Shared}
/-- sum of a tuple of ints -/
theorem mini_sum_tup {t : Addr} {xs : Array (Int × Tok)} {Q : Value → Shared → Prop} (hh : A.handled = none) (ht : s.heap.IsTuple t (intItems xs))
    (h : ∀ h' tk t', (∀ b o, s.heap.get? b = some o → h'.get? b = some o) → Q (.int (preSum (numAt xs) xs.size) t') { s with heap := h', toks := tk }) :
    wpAny (model prog w) A (call (.builtin "sum") [.ref t]) Q E s := by
  have hlt : t < s.heap.objs.size := by obtain ⟨_, e, _⟩ := ht; exact Heap.lt_size e
  refine call_sum_walkG (wpAny_pyIter_tuple ht ?_)
  refine ⟨s.heap.objs.size, [s.heap.objs.size, t], [s.heap.objs.size], (intItems xs).size, _, _, numAt xs, rfl, Walks.tuple (A := A.in1) hh _ t (Nat.ne_of_lt hlt) (intItems xs), ⟨⟨_, Heap.get?_push_size _ rfl, rfl, rfl⟩, ht.push _⟩, fun b hb => ?_, (fun _ _ => intItems_at), fun h' tk t' hk => ?_⟩
  · show b < (s.heap.push _).objs.size
    rw [Heap.size_push]
    rcases List.mem_cons.mp hb with rfl | hb
    · exact Nat.lt_succ_self _
    · rw [List.mem_singleton.mp hb]
      exact Nat.lt_succ_of_lt hlt
  · have := h h' tk t' fun b o e => hk b o (fun m => by
      have := Heap.lt_size e
      rw [List.mem_singleton.mp m] at this
      exact Nat.lt_irrefl _ this) (Heap.get?_push_of_some _ e)
    simpa [intItems] using this
/-- a list filled from a range whose iterator holds long ints -/
theorem mini_extend_rangeB {R : Result → Shared → Prop} {r : Addr} {a b c : Int} {t u v : Tok} {n : Nat} (hh : A.handled = none) (hr : IsRange s.heap r a b c t u v) (hbig : Builtin.Range.small a b c = false)
    (hn : Builtin.Range.rangeSize a b c = n) (hlen : n ≤ 2 ^ 24) (S : Addr) (res : Value) (c₀ : Nat) (hS : s.heap.get? S = some { cls := .type "list", data := .seq #[] c₀ })
    (hR : ∀ h' tk acc' c', (∀ b o, b ≠ S → s.heap.get? b = some o → h'.get? b = some o) → h'.get? S = some { cls := .type "list", dict := none, data := .seq acc' c', slots := #[] } →
      ItemsOf (fun i v => ∃ t, v = .int (a + i * c) t) acc' n → R (.ok (.ret res)) { s with heap := h', toks := tk }) :
    wpAny (model prog w) A.in1 (Builtin.List.listExtendWith (.ref S) (.ref r) res)
      (fun fin s' => match fin with | .done f => R (.ok f) s' | .again c' => c'.quiet = true ∧ codeAny (model prog w) A c' R s') (fun e s' => R (.error e) s') s := by
  have hSr : S ≠ r := fun e => by rw [e, hr] at hS; simp at hS
  have hSlt : S < s.heap.objs.size := Heap.lt_size hS
  have hSI : S ≠ s.heap.objs.size := Nat.ne_of_lt hSlt
  have hSf : S ∉ [s.heap.objs.size] := fun hm => hSI (List.mem_singleton.mp hm)
  have W := (Walks.longrange (prog := prog) (w := w) (A := A.in1) hh s.heap.objs.size a c n).toS
  have key : ∀ (h : Heap) (c₁ tk : Nat), IsLongIter h s.heap.objs.size (a + ((0 : Nat) : Int) * c) ((n : Int) - ((0 : Nat) : Int)) c → (∀ b o, b ≠ S → s.heap.get? b = some o → h.get? b = some o) →
      h.get? S = some { cls := .type "list", data := .seq #[] c₁ } → codeAny (model prog w) A (.builtin "list.extend.loop" ⟨[.ref S, .ref s.heap.objs.size, res], []⟩) R { s with heap := h, toks := tk } := by
    intro h c₁ tk hit hk hS₁
    refine codeAny_extend_loopS W (by rw [sizeLine_eq]; omega) S hSf res n 0 _ #[] c₁ rfl (Nat.zero_le _) hit hS₁ (ItemsOf.nil _) fun s' acc' c' hm hS' hacc => ?_
    rw [Moved.eq_with hm]
    refine hR s'.heap s'.toks acc' c' (fun b o hb e => hm.heap b o (fun hmem => ?_) (hk b o hb e)) hS' hacc
    rcases List.mem_cons.mp hmem with e' | hmem
    · exact hb e'
    · exact absurd (Heap.lt_size e) (by rw [List.mem_singleton.mp hmem]; exact Nat.lt_irrefl _)
  unfold Builtin.List.listExtendWith
  refine wpAny_bind (wpAny_typeOf (T := "range") ⟨_, hr, rfl⟩ ?_)
  have h1 : Builtin.List.listSameRef (.ref S) (.ref r) = false := by simp [Builtin.List.listSameRef, hSr]
  have h2 : (Value.type "range" == Value.type "list") = false := by decide
  have h3 : (Value.type "range" == Value.type "tuple") = false := by decide
  simp only [h1, h2, h3, Bool.or_false, Bool.false_eq_true, if_false]
  refine wpAny_bind (wpAny_pyIter_longrange hr hbig ?_)
  refine wpAny_bind (wpAny_holding (wpAny_hint_range (n := n) (Heap.get?_push_of_some _ hr) hn hlen ?_))
  have hit₁ : IsLongIter (s.heap.push { cls := .type "longrange_iterator", data := .fields #[rawInt a, rawInt (Builtin.Range.rangeSize a b c), rawInt c] }) s.heap.objs.size (a + ((0 : Nat) : Int) * c) ((n : Int) - ((0 : Nat) : Int)) c := by
    show IsLongIter _ _ _ _ _; rw [hn]; simpa using Heap.get?_push_size _ rfl
  have hS₁ := Heap.get?_push_of_some { cls := .type "longrange_iterator", data := .fields #[rawInt a, rawInt (Builtin.Range.rangeSize a b c), rawInt c] } hS
  refine wpAny_ite_split (fun _ => ?_) (fun _ => wpAny_pure ⟨plainId_quiet F.plain_extend_loop _, key _ c₀ _ hit₁ (fun b o _ e => Heap.get?_push_of_some _ e) hS₁⟩)
  refine wpAny_bind (wpAny_rule ?_)
  refine wpAny_bind ?_
  show wpAny _ _ (updateSeq S (·.push .none) >>= fun _ => updateSeq S (·.pop)) _ _ _
  refine wpAny_bind (wpAny_updateSeq hS₁ rfl ?_)
  have hS₂ := Heap.get?_update_self (Obj.mapSeq (·.push Value.none)) hS₁ rfl
  refine wpAny_updateSeq (hz := by seq_fits) hS₂ rfl ?_
  have hS₃ := Heap.get?_update_self (Obj.mapSeq (·.pop)) hS₂ rfl
  refine wpAny_pure ⟨plainId_quiet F.plain_extend_loop _, key _ _ _ ?_ (fun b o hb e => ?_) hS₃⟩
  · exact (Heap.get?_update_other _ _ hSI).trans ((Heap.get?_update_other _ _ hSI).trans hit₁)
  · exact (Heap.get?_update_other _ _ (Ne.symm hb)).trans ((Heap.get?_update_other _ _ (Ne.symm hb)).trans (Heap.get?_push_of_some _ e))
theorem mini_list_init_rangeB {R : Result → Shared → Prop} {r : Addr} {a b c : Int} {t u v : Tok} {n : Nat} (hh : A.handled = none) (hr : IsRange s.heap r a b c t u v) (hbig : Builtin.Range.small a b c = false)
    (hn : Builtin.Range.rangeSize a b c = n) (hlen : n ≤ 2 ^ 24) (S : Addr) (hS : s.heap.get? S = some { cls := .type "list", data := .seq #[] })
    (hR : ∀ h' tk acc' c', (∀ b o, b ≠ S → s.heap.get? b = some o → h'.get? b = some o) → h'.get? S = some { cls := .type "list", dict := none, data := .seq acc' c', slots := #[] } →
      ItemsOf (fun i v => ∃ t, v = .int (a + i * c) t) acc' n → R (.ok (.ret .none)) { s with heap := h', toks := tk }) :
    wpAny (model prog w) A.in1 (Builtin.«list.__init__» ⟨[.ref S, .ref r], []⟩)
      (fun fin s' => match fin with | .done f => R (.ok f) s' | .again c' => c'.quiet = true ∧ codeAny (model prog w) A c' R s') (fun e s' => R (.error e) s') s := by
  have hSr : S ≠ r := fun e => by rw [e, hr] at hS; simp at hS
  show wpAny _ _ (do let old ← Builtin.List.listItems (.ref S); Builtin.List.listUpdate (.ref S) (fun _ => #[]); letGo old.toList.reverse; Builtin.List.listExtendWith (.ref S) (.ref r) .none) _ _ s
  refine wpAny_bind ?_
  unfold Builtin.List.listItems
  refine wpAny_bind (wpAny_seqItems hS rfl (wpAny_pure ?_))
  show wpAny _ _ (updateSeq S (fun _ => #[]) >>= fun _ => letGo (#[] : Array Value).toList.reverse >>= fun _ => Builtin.List.listExtendWith (.ref S) (.ref r) .none) _ _ s
  refine wpAny_bind (wpAny_updateSeq hS rfl ?_)
  have hS₂ := Heap.get?_update_self (Obj.mapSeq (fun _ => (#[] : Array Value))) hS rfl
  have oth : ∀ b o, b ≠ S → s.heap.get? b = some o → (s.heap.update S (Obj.mapSeq (fun _ => (#[] : Array Value)))).get? b = some o :=
    fun b o hb e => (Heap.get?_update_other _ _ (Ne.symm hb)).trans e
  refine wpAny_bind (wpAny_letGo ?_)
  refine mini_extend_rangeB hh (oth r _ (Ne.symm hSr) hr) hbig hn hlen S .none _ hS₂ fun h' tk acc' c' hk hS' hacc => ?_
  exact hR h' tk acc' c' (fun b o hb e => hk b o hb (oth b o hb e)) hS' hacc
theorem mini_list_range {Q : Value → Shared → Prop} {r : Addr} {a b c : Int} {t u v : Tok} {n : Nat} (hh : A.handled = none) (hr : IsRange s.heap r a b c t u v)
    (hn : Builtin.Range.rangeSize a b c = n) (hlen : n ≤ 2 ^ 24)
    (hQ : ∀ h' tk acc' c', (∀ b o, s.heap.get? b = some o → h'.get? b = some o) →
      h'.get? s.heap.objs.size = some { cls := .type "list", dict := none, data := .seq acc' c', slots := #[] } → ItemsOf (fun i v => ∃ t, v = .int (a + i * c) t) acc' n → Q (.ref s.heap.objs.size) { s with heap := h', toks := tk }) :
    wpAny (model prog w) A (call (.type "list") [.ref r]) Q E s := by
  cases hs : Builtin.Range.small a b c with
  | true => exact call_list_range hh hr hs hn hlen hQ
  | false =>
    refine callType_codes (Q₁ := fun obj s₁ => obj = .ref s.heap.objs.size ∧ s₁ = { s with heap := s.heap.push { cls := .type "list", data := .seq #[] } }) F.called_list (F.typeCall_list_1 _) F.entry_list_init
      (code_list_new _ ⟨rfl, rfl⟩) fun obj s₁ h₁ => ?_
    obtain ⟨rfl, rfl⟩ := h₁
    have hS : (s.heap.push { cls := .type "list", data := .seq #[] }).get? s.heap.objs.size = some { cls := .type "list", data := .seq #[] } := Heap.get?_push_size _ rfl
    refine ⟨⟨_, hS, rfl⟩, F.args_list_init_2 _ _, mini_list_init_rangeB (A := A.in1) hh (Heap.get?_push_of_some _ hr) hs hn hlen _ hS fun h' tk acc' c' hk hS' hacc => ?_⟩
    exact ⟨rfl, hQ h' tk acc' c' (fun b o e => hk b o (Nat.ne_of_lt (Heap.lt_size e)) (Heap.get?_push_of_some _ e)) hS' hacc⟩
end
end PySem
namespace Mini
open PySem PySem.Spec L2
open PyProof.Rows

/-! ### values -/
/-- xs[::-1] -/
def revD (a : D) : M D := match a with
  | .tup xs => if xs.length ≤ lineN then ret (.tup xs.reverse) else stk
  | .rol xs => alloc (.lst xs.reverse)
  | .loc n => bnd (litems (.loc n)) fun xs => alloc (.lst xs.reverse)
  | _ => stk
/-- sum(xs) of a list or a tuple of ints -/
def bSum : List D → M D := ofItems bSumI
/-- list(range(lo, hi)) -/
def lrD (lo hi : D) : M D := match lo, hi with
  | .int i, .int j => if (j - i).toNat ≤ 16777216 then alloc (.lst (rngL i j)) else stk
  | _, _ => stk
def cLR1 (a : Den) : Den := fun σ => bnd (a σ) fun x => lrD (.int 0) x
def cLR2 (a b : Den) : Den := fun σ => bnd (a σ) fun x => bnd (b σ) fun y => lrD x y
/-! ### rules -/
section
variable {prog : Program} {w : World} {A : Around} {E : Value → Shared → Prop} {s : Shared}
theorem mini_sum_raw {t : Addr} {its : List Value} {ns : List Int} {Q : Value → Shared → Prop} (hh : A.handled = none) (hl : s.heap.IsTuple t its.toArray) (hi : IntsAre its ns)
    (h : ∀ h' tk t', (∀ b o, s.heap.get? b = some o → h'.get? b = some o) → Q (.int ns.sum t') { s with heap := h', toks := tk }) : wpAny (model prog w) A (call (.builtin "sum") [.ref t]) Q E s := by
  obtain ⟨xs, e⟩ := hi.allInts.items
  have hn : numsOf (intItems xs).toList = ns := by rw [← e]; exact hi.numsOf
  rw [nums_intItems] at hn
  rw [e] at hl
  refine PySem.mini_sum_tup hh hl fun h' tk t' hk => ?_
  have := h h' tk t' hk
  rw [preSum_eq, List.take_of_length_le (by simp), hn]; exact this
end
section
variable {G : Gt} {X : Cx} {W : WX} {pn : List (Addr × Obj)}
theorem vc_sum (g : Good G X W) (hc : X.calm = true) : VC G X W (.builtin "sum") bSum := by
  intro pins s σ H ι μ ds xs us Q I rv rp sd o
  unfold bSum ofItems at o
  split at o
  · obtain ⟨v, rfl, hv⟩ := rpl1 rp
    obtain ⟨a, ys, vs, rfl, h2, h3, o⟩ := out_items o sd hv
    rcases h2 with h2 | h2
    · exact vs_sum g hc pins s σ H ι μ ys vs a us Q I rv h2 h3 sd o
    · obtain ⟨ns, hn, o⟩ := out_opt o
      rw [intsOf_eq hn] at h3
      rw [h3.ints] at h2
      obtain ⟨its, r, ht, hz⟩ := I.tuple (show SqT X.K H a (ns.map V.int) by rw [g.K]; exact h2)
      rw [Vals.ref1 rv]
      exact mini_sum_raw (I.ok.hd hc) ht r.ints fun h' tk t' hk => ⟨.int _, H, I.kept hk, ⟨_, rfl⟩, out_ret o sd rfl⟩
  · exact o.elim
end
/-! ### xs[::-1] -/
section
variable {prog : Program} {w : World} {A : Around} {E : Value → Shared → Prop} {s : Shared}
theorem adjust_rev (n : Nat) : Builtin.Slice.sliceAdjust none none (-1) (n : Int) = ((n : Int) - 1, -1) := by
  unfold Builtin.Slice.sliceAdjust
  simp
theorem places_rev (n : Nat) : Builtin.Slice.slicePlaces ((n : Int) - 1) (-1) (-1) = n := by
  unfold Builtin.Slice.slicePlaces
  have h1 : ¬ ((-1 : Int) > 0) := by omega
  simp only [h1, if_false]
  split
  · have : ((n : Int) - 1 - -1 - 1) / (- -1) + 1 = n := by
      rw [Int.neg_neg, Int.ediv_one]
      omega
    rw [this]
    simp
  · omega
theorem pick_rev (xs : Array Value) : ((List.range xs.size).filterMap fun (m : Nat) => xs[(((xs.size : Int) - 1) + (m : Int) * (-1)).toNat]?).toArray = xs.toList.reverse.toArray := by
  have e : (fun (m : Nat) => xs[(((xs.size : Int) - 1) + (m : Int) * (-1)).toNat]?) = (fun k => xs[k]?) ∘ fun m => xs.size - 1 - m := by
    funext m
    have : (((xs.size : Int) - 1) + (m : Int) * (-1)).toNat = xs.size - 1 - m := by omega
    show xs[_]? = xs[_]?
    rw [this]
  rw [e, ← List.filterMap_map, PySem.W.krv_range, List.filterMap_reverse, PySem.W.krv_all]
theorem sliceApplied_rev {sl : Addr} {vl vu vs : Value} {n : Nat} {Q : Int × Int × Nat → Shared → Prop} (hs : ∃ os, s.heap.get? sl = some os ∧ os.cls = .type "slice" ∧ os.data = .fields #[vl, vu, vs]) (pl : IsPart vl none) (pu : IsPart vu none) (ps : IsPart vs (some (-1)))
    (h : Q ((n : Int) - 1, -1, n) s) : wpAny (model prog w) A (Builtin.Slice.sliceApplied (.ref sl) (pure (n : Int))) Q E s := by
  obtain ⟨os, hos, hcs, hds⟩ := id hs
  unfold Builtin.Slice.sliceApplied Builtin.Slice.sliceFields
  refine wpAny_bind (wpAny_bind (wpAny_field hos hds (x := vl) rfl (wpAny_bind (wpAny_field hos hds (x := vu) rfl (wpAny_bind (wpAny_field hos hds (x := vs) rfl (wpAny_pure ?_)))))))
  refine wpAny_bind (HT.slicePart_ ps ?_)
  show wpAny _ _ (if ((-1 : Int) == 0) = true then _ else _) _ _ s
  rw [if_neg (by decide)]
  refine wpAny_bind (HT.slicePart_ pl (wpAny_bind (HT.slicePart_ pu (wpAny_bind (wpAny_pure ?_)))))
  show wpAny _ _ (match Builtin.Slice.sliceAdjust none none (-1) (n : Int) with | (lo, hi) => pure (lo, (-1 : Int), Builtin.Slice.slicePlaces lo hi (-1))) _ _ s
  rw [adjust_rev n]
  show wpAny _ _ (pure ((n : Int) - 1, (-1 : Int), Builtin.Slice.slicePlaces ((n : Int) - 1) (-1) (-1))) _ _ s
  rw [places_rev]
  exact wpAny_pure h
theorem getItem_tuple_rev {t sl : Addr} {items : Array Value} {vl vu vs : Value} {Q : Value → Shared → Prop} (ht : IsTup s.heap t items) (hs : ∃ os, s.heap.get? sl = some os ∧ os.cls = .type "slice" ∧ os.data = .fields #[vl, vu, vs]) (pl : IsPart vl none) (pu : IsPart vu none) (ps : IsPart vs (some (-1)))
    (h : Q (.ref s.heap.objs.size) { s with heap := s.heap.push { cls := .type "tuple", data := .seq items.toList.reverse.toArray } })
    (hsz : items.size ≤ sizeLine) : wpAny (model prog w) A (getItem (.ref t) (.ref sl)) Q E s := by
  have htake : sizeOk (.seq items.toList.reverse.toArray) := by
    show items.toList.reverse.toArray.size ≤ sizeLine
    rw [List.size_toArray, List.length_reverse, Array.length_toList]
    exact hsz
  obtain ⟨os, hos, hcs, hds⟩ := id hs
  have hTs : s.TypeIs (.ref sl) "slice" := ⟨os, hos, hcs⟩
  unfold getItem
  try with_reducible refine wpAny_holding ?_
  first | refine wpAny_bind (wpAny_pure ?_) | skip
  refine wpAny_bind (wpAny_sequenceKey ht.typeIs (by decide) ?_)
  refine wpAny_bind (wpAny_callSpecial?_slot (name := Str.ofString "__getitem__") ht.typeIs PyProof.Rows.slot_tuple_getitem
    (wpAny_call_entry PyProof.Rows.slot_tuple_getitem ht.typeIs entry_tuple_getitem ?_ (args_tuple_getitem _ _)))
  show wpAny _ _ (Builtin.Tuple.tupleItemsOf (.ref t) >>= _) _ _ s
  refine wpAny_bind (tupleItemsOf_ ht ?_)
  refine wpAny_bind (wpAny_typeOf hTs ?_)
  rw [if_pos (by decide)]
  refine wpAny_bind (sliceApplied_rev hs pl pu ps ?_)
  have hno : ¬ ((((items.size : Int) - 1) == 0 && (-1 : Int) == 1 && items.size == items.size) = true) := by
    intro q
    rw [Bool.and_eq_true, Bool.and_eq_true] at q
    exact absurd q.1.2 (by decide)
  show wpAny _ _ (if (((items.size : Int) - 1) == 0 && (-1 : Int) == 1 && items.size == items.size) = true then _ else _) _ _ s
  rw [if_neg hno, pick_rev]
  first
    | exact wpAny_bind (m := Builtin.Tuple.tupleExact _) (wpAny_newObj_type (wpAny_pure ⟨_, rfl, wpAny_pure h⟩) htake)
    | exact wpAny_bind (m := Builtin.Tuple.tupleExact _) (wpAny_newObj_type (wpAny_bind (wpAny_pure (wpAny_pure ⟨_, rfl, wpAny_pure h⟩))) htake)
    | exact wpAny_bind (wpAny_bind (m := Builtin.Tuple.tupleExact _) (wpAny_newObj_type (wpAny_pure (wpAny_pure ⟨_, rfl, wpAny_pure h⟩)) htake))
    | exact wpAny_bind (wpAny_bind (m := Builtin.Tuple.tupleExact _) (wpAny_newObj_type (wpAny_pure ⟨_, rfl, wpAny_pure h⟩) htake))
end
section
variable {G : Gt} {X : Cx} {W : WX} {pn : List (Addr × Obj)}
theorem out_rev {d : D} {σ : L2.St} {ι : List Addr} {H : Hp} {μ : Store} {Q : VK} {v : V} (o : Out G W σ ι H (RV G Q) (revD d μ)) (sd : Sd G μ ι H) (r : Rp G H ι d v) :
    ∃ a vs, v = .ref a ∧ ((SqL G.K H a vs ∧ ∀ p, H p = none → Q (.ref p) (upd H p (.lst vs.reverse))) ∨ (SqT G.K H a vs ∧ ∀ p, H p = none → Q (.ref p) (upd H p (.tup vs.reverse)))) := by
  have rr : ∀ {ds : List D} {vs : List V}, RpL G H ι ds vs → RpL G H ι ds.reverse vs.reverse := fun {ds} => by
    induction ds with
    | nil => intro vs h; rw [show vs = [] from h]; rfl
    | cons d ds ih =>
      intro vs h
      obtain ⟨v, r, rfl, h2, h3⟩ := h
      rw [List.reverse_cons, List.reverse_cons]
      exact (ih h3).append (RpL.one h2)
  cases d with
  | tup xs =>
    obtain ⟨a, vs, rfl, h2, h3⟩ := r
    refine ⟨a, vs, rfl, .inr ⟨h2, fun p hp => ?_⟩⟩
    unfold revD at o
    dsimp only at o
    split at o
    · exact o ι _ (Ext.laid hp) (sd.laid hp) (.ref p) ⟨p, vs.reverse, rfl, SqT.of upd_same, RpL.ext (Ext.laid hp) (rr h3)⟩
    · exact o.elim
  | rol xs =>
    obtain ⟨a, vs, rfl, h2, h3⟩ := r
    exact ⟨a, vs, rfl, .inl ⟨h2.sq, fun p hp => out_alloc (xs := xs.reverse) o sd (rr h3) hp⟩⟩
  | loc n =>
    obtain ⟨a, xs, vs, h1, h2, h3, h4, h5, h6⟩ := out_litems (n := n) o sd r
    exact ⟨a, vs, h1, .inl ⟨.inl (.inl h4), fun p hp => out_alloc h6 sd (rr h5) hp⟩⟩
  | _ => exact o.elim
theorem je_rev {e : Expr} {me : Den} {k : Nat} {p1 p2 p3 pos : Pos} (g : Good G X W) (he : JE G X pn W e me) : JE G X pn W (.Subscript e (.Slice none none (some (.UnaryOp .USub (.Constant (.int 1) k p1) p2)) p3) pos) (c1 revD me) :=
  je_mk fun pins s σ H ι μ σd Q I ed sd o => by
    refine Subscript_ (thn (he.use I ed sd o) fun v s1 ⟨x, d, μ1, ι1, H1, I1, r1, p1', x1, sd1, o1⟩ => ?_)
    obtain ⟨a, xs, ex, hq⟩ := out_rev o1 sd1 p1'
    subst ex
    cases r1
    have hst : PO X (some (.UnaryOp .USub (.Constant (.int 1) k p1) p2)) (tPart (tUn (rU fun i => .int (-i)) (tC (.int 1)))) := po_some (pe_un un_neg pe_int)
    refine wpAny_Slice (thn (po_none.run pins s1 σ H1 (fun o H2 => o = none ∧ H2 = H1) I1 ⟨rfl, rfl⟩) fun vl s2 ⟨l, H2, I2, pl, el, e2⟩ => ?_)
    subst el e2
    refine thn (po_none.run pins s2 σ H2 (fun o H3 => o = none ∧ H3 = H2) I2 ⟨rfl, rfl⟩) fun vu s3 ⟨u, H3, I3, pu, eu, e3⟩ => ?_
    subst eu e3
    refine thn (hst.run pins s3 σ H3 (fun o H4 => o = some (-1) ∧ H4 = H3) I3 ⟨1, rfl, -1, rfl, rfl, rfl⟩) fun vs s4 ⟨o, H4, I4, ps, eo, e4⟩ => ?_
    subst eo e4
    have I5 : Inv X pins σ H4 { s4 with heap := s4.heap.push { cls := .type "slice", data := .fields #[vl, vu, vs] } } := I4.kept (t' := s4.toks) fun b ob q => Heap.get?_push_of_some _ q
    rcases hq with ⟨hx, q⟩ | ⟨hx, q⟩
    · obtain ⟨its, r, ht, hz⟩ := I5.list (show SqL X.K H4 a xs by rw [g.K]; exact hx)
      have hlen := r.length
      show wpAny (model X.prog X.w) X.A (subscriptTail e (.Slice none none (some (.UnaryOp .USub (.Constant (.int 1) k p1) p2)) p3) (.ref a) (.ref s4.heap.objs.size)) (EP X pins σ Q) X.xe { s4 with heap := s4.heap.push { cls := .type "slice", data := .fields #[vl, vu, vs] } }
      refine tail_any (ops := [.ref a, .ref s4.heap.objs.size]) ht.isList.typeIs (PySem.slot_list_getitem.lookup) ?_ (by with_unfolding_all rfl)
      refine wpAny_getItem_list_slice ht.isList (Heap.IsSliceOf.new _ vl vu vs) pl pu ps (by decide) ?_ (by rw [List.size_toArray]; omega)
      rw [PySem.W.krv_pick]
      refine ⟨.ref _, _, I5.laid (t' := s4.toks) (o := .lst xs.reverse) (fun b ob q => Heap.get?_push_of_some _ q) (Nat.le_refl _) ?_, rfl, q _ (I5.hok.fresh (Nat.le_refl _))⟩
      exact ⟨by rw [List.length_reverse]; exact hz, _, 0, r.reverse, Heap.get?_push_size _ rfl⟩
    · obtain ⟨its, r, ht, hz⟩ := I5.tuple (show SqT X.K H4 a xs by rw [g.K]; exact hx)
      have hlen := r.length
      show wpAny (model X.prog X.w) X.A (subscriptTail e (.Slice none none (some (.UnaryOp .USub (.Constant (.int 1) k p1) p2)) p3) (.ref a) (.ref s4.heap.objs.size)) (EP X pins σ Q) X.xe { s4 with heap := s4.heap.push { cls := .type "slice", data := .fields #[vl, vu, vs] } }
      refine tail_any (ops := [.ref a, .ref s4.heap.objs.size]) ht.typeIs PyProof.Rows.slot_tuple_getitem.lookup ?_ (by with_unfolding_all rfl)
      refine getItem_tuple_rev ht ⟨_, Heap.get?_push_size _ rfl, rfl, rfl⟩ pl pu ps ?_ (by rw [List.size_toArray]; omega)
      refine ⟨.ref _, _, I5.laid (t' := s4.toks) (o := .tup xs.reverse) (fun b ob q => Heap.get?_push_of_some _ q) (Nat.le_refl _) ?_, rfl, q _ (I5.hok.fresh (Nat.le_refl _))⟩
      exact ⟨by rw [List.length_reverse]; exact hz, _, r.reverse, IsTup.new _ _⟩
/-! ### list(range(..)) -/
theorem rgV_ints (i j : Int) : rgV i j = ((List.range (j - i).toNat).map fun (k : Nat) => (i + (k : Int))).map V.int := by
  unfold rgV
  rw [List.map_map]
  rfl
theorem rngL_ints (i j : Int) : rngL i j = ((List.range (j - i).toNat).map fun (k : Nat) => (i + (k : Int))).map D.int := by
  unfold rngL
  rw [List.map_map]
  rfl
theorem out_lr {i j : Int} {σ : L2.St} {ι : List Addr} {H : Hp} {μ : Store} {Q : VK} (o : Out G W σ ι H (RV G Q) (lrD (.int i) (.int j) μ)) (sd : Sd G μ ι H) : (j - i).toNat ≤ 16777216 ∧ ∀ p, H p = none → Q (.ref p) (upd H p (.lst (rgV i j))) := by
  unfold lrD at o
  dsimp only at o
  split at o
  · rename_i h
    refine ⟨h, fun p hp => ?_⟩
    have r : RpL G H ι (rngL i j) (rgV i j) := by
      rw [rngL_ints, rgV_ints]
      exact RpL.ofInts _
    exact out_alloc o sd r hp
  · exact o.elim
theorem lr_end (hc : X.calm = true) {pins : List (Addr × Obj)} {s1 : Shared} {σ : L2.St} {H1 : Hp} {r : Addr} {a b : Int} {t u v : Tok} {Q : VK} (I1 : Inv X pins σ H1 s1) (hr : IsRange s1.heap r a b 1 t u v) (b5 : (b - a).toNat ≤ 16777216) (q : ∀ p, H1 p = none → Q (.ref p) (upd H1 p (.lst (rgV a b)))) :
    wpAny (model X.prog X.w) X.A (call (.type "list") [.ref r]) (EP X pins σ Q) X.xe s1 := by
  refine mini_list_range (n := (b - a).toNat) (I1.ok.hd hc) hr (rangeSize_nat a b) (by omega) fun h' tk acc c' hk e' hi => ?_
  refine ⟨.ref s1.heap.objs.size, upd H1 s1.heap.objs.size (.lst (rgV a b)), I1.laid hk (Nat.le_refl _) (show ObjOk X.prog X.w _ _ _ (.lst (rgV a b)) from ⟨?_, acc.toList, c', vals_rg hi, ?_⟩), rfl, q _ (I1.hok.fresh (Nat.le_refl _))⟩
  · rw [rgV_length, sizeLine_eq]; omega
  · rw [Array.toArray_toList]; exact e'
variable {a b : Expr} {ma mb : Den} {p p' pos pos' : Pos}
theorem je_LR1 (hc : X.calm = true) (hg : Gl X "list") (hm : X.mg "list" = none) (hg2 : Gl X "range") (hm2 : X.mg "range" = none) (ha : JE G X pn W a ma) (hs : starEach [a] X.env = [(false, eval a X.env)]) :
    JE G X pn W (.Call (.Name "list" p) [.Call (.Name "range" p') [a] [] pos'] [] pos) (cLR1 ma) :=
  je_mk fun pins s σ H ι μ σd Q I ed sd o => by
    have o : Out G W σ ι H (RV G Q) (bnd (ma σd) (fun x => lrD (.int 0) x) μ) := o
    refine Call_ (ld_blt I hg hm boot_list (PyProof.Rows.callWith_type1 (args_cons (thn (prg_1 (pos := pos') hg2 hm2 ha hs pins s σ H (fun i j H1 => i = 0 ∧ ∃ μ1 ι1, Sd G μ1 ι1 H1 ∧ Out G W σ ι1 H1 (RV G Q) (lrD (.int 0) (.int j) μ1)) I ⟨σd, μ, ι, ed, sd, o.fst.imp fun d ι1 H1 ⟨μ1, s1, x1, o1⟩ v r => ?_⟩) fun x s1 ⟨r, i, j, t, u, v, H1, ex, hr, I1, e0, μ1, ι1, sd1, o1⟩ => args_nil ?_) rfl) rfl))
    · cases d with
      | int n => exact ⟨n, r, rfl, μ1, ι1, s1, o1⟩
      | _ => exact o1.elim
    · subst ex e0
      obtain ⟨h1, h2⟩ := out_lr o1 sd1
      exact lr_end hc I1 hr h1 h2
theorem je_LR2 (hc : X.calm = true) (hg : Gl X "list") (hm : X.mg "list" = none) (hg2 : Gl X "range") (hm2 : X.mg "range" = none) (ha : JE G X pn W a ma) (hb : JE G X pn W b mb) (hs : starEach [a, b] X.env = [(false, eval a X.env), (false, eval b X.env)]) (hs2 : starEach [b] X.env = [(false, eval b X.env)]) :
    JE G X pn W (.Call (.Name "list" p) [.Call (.Name "range" p') [a, b] [] pos'] [] pos) (cLR2 ma mb) :=
  je_mk fun pins s σ H ι μ σd Q I ed sd o => by
    have o : Out G W σ ι H (RV G Q) (bnd (ma σd) (fun x => bnd (mb σd) fun y => lrD x y) μ) := o
    refine Call_ (ld_blt I hg hm boot_list (PyProof.Rows.callWith_type1 (args_cons (thn (prg_2 (pos := pos') hg2 hm2 ha hb (by rw [hs, hs2]) hs2 (by rw [hs2]; rfl) pins s σ H (fun i j H1 => ∃ μ1 ι1, Sd G μ1 ι1 H1 ∧ Out G W σ ι1 H1 (RV G Q) (lrD (.int i) (.int j) μ1)) I ⟨σd, μ, ι, ed, sd, o.fst.imp fun d ι1 H1 ⟨μ1, s1, x1, o1⟩ v r => ⟨σd, μ1, ι1, ed.ext x1, s1, Out.imp (Out.fst o1) fun e ι2 H2 ⟨μ2, s2, x2, o2⟩ v2 r2 => ?_⟩⟩) fun x s1 ⟨r, i, j, t, u, v, H1, ex, hr, I1, μ1, ι1, sd1, o1⟩ => args_nil ?_) rfl) rfl))
    · cases d with
      | int n =>
        cases e with
        | int m => exact ⟨n, m, r, r2, μ2, ι2, s2, o2⟩
        | _ => exact o2.elim
      | _ => exact o2.elim
    · subst ex
      obtain ⟨h1, h2⟩ := out_lr o1 sd1
      exact lr_end hc I1 hr h1 h2
end
end Mini

set_option Elab.async false
set_option linter.all false
set_option maxRecDepth 100000
set_option maxHeartbeats 4000000
/-! # Mini, part J: from the text to its meaning -/
namespace Mini
open PySem

/-- what the module's names are -/
structure Tab where
  fns : List (Str × Nat)
  cons : List (Str × D)
  excs : List (Str × Nat)
  plain : Nat → Bool
  fld : Str → Nat → Bool
  free : List Str
  sup : Nat → Nat → Option Bool
/-- where the text stands: slots, scope, cells that may be bound, in an except suite, at a body's level -/
structure Cn where
  T : Tab
  N : List Str
  sc : Scope
  cells : List Str
  hot : Bool
  top : Bool
def ixOf (x : Str) : List Str → Nat → Option Nat
  | [], _ => none
  | y :: r, n => if y == x then some n else ixOf x r (n + 1)
def isGl (c : Cn) (x : Str) : Bool := match c.sc.names.lookup x with
  | some .globalImplicit => true
  | _ => false
def isVis (c : Cn) (x : Str) : Bool := match c.sc.names.lookup x with
  | some .local => true
  | some .cell => true
  | some .free => true
  | _ => false
def isLc (c : Cn) (x : Str) : Bool := match c.sc.names.lookup x with
  | some .local => true
  | _ => false
/-- may be bound here -/
def isTg (c : Cn) (x : Str) : Bool := match c.sc.names.lookup x with
  | some .local => true
  | some .cell => c.cells.contains x
  | _ => false
def okN (x : Str) : Bool := !(x == ("__debug__" : Str)) && !(x == ("__classdict__" : Str)) && !(x == ("__name__" : Str))
def chk {α : Type} (b : Bool) (o : Option α) : Option α := if b = true then o else none
def nst : Expr → Bool
  | .Starred _ _ => false
  | _ => true
def nset : Expr → Bool
  | .Set _ _ _ => false
  | _ => true
def ncomp : Expr → Bool
  | .ListComp _ _ _ _ => false
  | .SetComp _ _ _ _ => false
  | .DictComp _ _ _ _ _ => false
  | _ => true
def nslice : Expr → Bool
  | .Slice _ _ _ _ => false
  | _ => true
/-- a receiver that is no call without arguments -/
def ncall0 : Expr → Bool
  | .Call _ [] _ _ => false
  | _ => true
/-- its test is the truth of its value -/
def tval : Expr → Bool
  | .Name _ _ => true
  | .Call _ _ _ _ => true
  | .Subscript _ _ _ => true
  | .Constant _ _ _ => true
  | .BinOp _ _ _ _ => true
  | .ListComp _ _ _ _ => true
  | _ => false
def op2 : Operator → Option (D → D → M D)
  | .Add => some addD
  | .Sub => some subD
  | .Mult => some mulD
  | .FloorDiv => some divD
  | .Mod => some modD
  | .Pow => some powD
  | _ => none
def copTo : CmpOp → Cop
  | .Eq => .eq | .NotEq => .ne | .Lt => .lt | .LtE => .le | .Gt => .gt | .GtE => .ge | .Is => .is | .IsNot => .nis | .In => .inn | .NotIn => .nin
/-- built-ins by values -/
inductive Bi where
  | len | abs | int | min | max | sum | all | any | tuple | list
def biName (x : Str) : Option Bi :=
  if x == ("len" : Str) then some .len else if x == ("abs" : Str) then some .abs else if x == ("int" : Str) then some .int else if x == ("min" : Str) then some .min else if x == ("max" : Str) then some .max
  else if x == ("sum" : Str) then some .sum else if x == ("all" : Str) then some .all else if x == ("any" : Str) then some .any else if x == ("tuple" : Str) then some .tuple else if x == ("list" : Str) then some .list else none
def Bi.f : Bi → List D → M D
  | .len => bLen | .abs => bAbs | .int => bInt | .min => bMin | .max => bMax | .sum => bSum | .all => ofL bAllI | .any => ofL bAnyI | .tuple => ofItems newT | .list => ofItems newL
/-- of the items of a list -/
def Bi.g : Bi → Option (List D → M D)
  | .len => some fun xs => ret (.int xs.length)
  | .sum => some bSumI | .all => some bAllI | .any => some bAnyI | .tuple => some newT | .list => some newL
  | _ => none
/-- may be asked in an except suite -/
def Bi.cool : Bi → Bool
  | .len => true | .abs => true | .int => true | .tuple => true | .list => true
  | _ => false
inductive Me where
  | append | pop
def meName (x : Str) : Option Me := if x == ("append" : Str) then some .append else if x == ("pop" : Str) then some .pop else none
def Me.c : Me → D → M Unit
  | .append => isLst | .pop => isLst
def Me.f : Me → D → List D → M D
  | .append => mAppend | .pop => mPop
def tyName (x : Str) : Option Ty :=
  if x == ("int" : Str) then some .int else if x == ("bool" : Str) then some .bool else if x == ("str" : Str) then some .str else if x == ("tuple" : Str) then some .tup else if x == ("list" : Str) then some .lst else if x == ("dict" : Str) then some .dct
  else if x == ("ValueError" : Str) then some .verr else none
def tyOf (c : Cn) : Expr → Option Ty
  | .Name x _ => chk (isGl c x && okN x) (match c.T.excs.lookup x with
    | some n => some (.exc n)
    | none => chk (c.T.free.contains x) (tyName x))
  | _ => none
def tysOf (c : Cn) : List Expr → Option (List Ty)
  | [] => some []
  | e :: es => chk (nst e) ((tyOf c e).bind fun t => (tysOf c es).map fun ts => t :: ts)
/-- the slots of a block's own names -/
def ownOf (N : List Str) : List (Str × NameKind) → List (Str × Nat)
  | [] => []
  | (x, k) :: r => match k with
    | .local => (match ixOf x N 0 with
      | some i => (x, i) :: ownOf N r
      | none => ownOf N r)
    | .cell => (match ixOf x N 0 with
      | some i => (x, i) :: ownOf N r
      | none => ownOf N r)
    | _ => ownOf N r
def Cn.blk (c : Cn) (scope : Scope) : Cn := { c with sc := L2.relS scope c.sc, cells := (scope.names.filter fun y => y.2 == .cell && scope.names.lookup y.1 == some .cell).map (·.1), hot := false, top := false }
/-- are the stores of a, b = x, y swapped; none: not told -/
def parD (c : Cn) (ts vs : List Expr) : Option (Option (List Str)) :=
  if (!(ts.length == 2 || ts.length == 3) || vs.length != ts.length) = true then some none else
  if (vs.any fun | .Starred _ _ => true | _ => false) = true then none else
  let line := (ts.head?.map (·.pos.line)).getD 0
  let names := ts.filterMap fun
    | .Name id pos => if c.sc.names.lookup id == some .local && pos.line == line then some id else none
    | _ => none
  if (names.length != ts.length || names.eraseDups.length != names.length) = true then some none else
  if (vs.all (foldedForSure 8)) = true then some none else
  if (vs.all (constantsAlone 8)) = true then none else some (some names)
/-- the reader -/
structure Dr where
  e : Cn → Expr → Option (Orc → Den)
  t : Cn → Expr → Option (Orc → DenT)
  w : Cn → BoolOp → List Expr → Option (Orc → DenT)
  v : Cn → BoolOp → List Expr → Option (Orc → Den)
  a : Cn → List Expr → Option (Orc → DenA)
  i : Cn → Expr → Option (Orc → DenI)
  g : Cn → Expr → Option (List Nat × (Orc → DenG))
  gs : Cn → List Expr → Option (List Nat × (Orc → DenGs))
  s : Cn → Stmt → Option (Orc → DenS)
  ss : Cn → List Stmt → Option (Orc → DenS)
def Dr.none : Dr := ⟨fun _ _ => .none, fun _ _ => .none, fun _ _ _ => .none, fun _ _ _ => .none, fun _ _ => .none, fun _ _ => .none, fun _ _ => .none, fun _ _ => .none, fun _ _ => .none, fun _ _ => .none⟩
/-- the parts of a comprehension -/
def lcP (d : Dr) (c : Cn) (elt : Expr) (gens : List Comprehension) (scope : Scope) : Option (Orc → Env → M (List D)) := match gens with
  | [⟨tg, iter, ifs, 0⟩] => chk (!c.hot && L2.blkC c.N c.sc scope (ownOf c.N scope.names) && nset iter)
      ((d.i c iter).bind fun mi => (d.g (c.blk scope) tg).bind fun sg => chk (sg.1.all fun j => ((ownOf c.N scope.names).map (·.2)).contains j)
        (((match ifs with
          | [] => some fun _ => tYes
          | [t] => d.t (c.blk scope) t
          | _ => .none) : Option (Orc → DenT)).bind fun mt => (d.e (c.blk scope) elt).bind fun me => some fun C => lcI ((ownOf c.N scope.names).map (·.2)) (mi C) (sg.2 C) (mt C) (me C)))
  | _ => .none
def idxD (d : Dr) (c : Cn) : Option Expr → Option (Orc → DenP)
  | .none => some fun _ => pNo
  | .some e => (d.e c e).bind fun m => some fun C => pSome (m C)
/-- isinstance -/
def isiD (d : Dr) (c : Cn) (args : List Expr) : Option (Orc → Den) := match args with
  | [.Name y py, .Tuple tes _ _] => if c.hot = true then chk (isVis c y && okN y) ((ixOf y c.N 0).bind fun i => (tysOf c tes).bind fun ts => chk (ts.length ≤ 100) (some fun _ => cIsE c.T.sup i ts))
      else (d.e c (.Name y py)).bind fun ma => (tysOf c tes).bind fun ts => chk (ts.length ≤ 100) (some fun C => cIs (ma C) ts)
  | [.Name y py, te] => if c.hot = true then chk (isVis c y && okN y && nst te) ((ixOf y c.N 0).bind fun i => (tyOf c te).bind fun t => some fun _ => cIsE1 c.T.sup i t)
      else chk (nst te) ((d.e c (.Name y py)).bind fun ma => (tyOf c te).bind fun t => some fun C => cIs1 (ma C) t)
  | [a, .Tuple tes _ _] => chk (nst a) ((d.e c a).bind fun ma => (tysOf c tes).bind fun ts => chk (ts.length ≤ 100) (some fun C => cIs (ma C) ts))
  | [a, te] => chk (nst a && nst te) ((d.e c a).bind fun ma => (tyOf c te).bind fun t => some fun C => cIs1 (ma C) t)
  | _ => .none
/-- a built-in -/
def bltA (d : Dr) (c : Cn) (b : Bi) (args : List Expr) : Option (Orc → Den) := match args with
  | [] => .none
  | args => (d.a c args).bind fun da => some fun C => cB b.f (da C)
/-- list(range(..)) -/
def lrgD (d : Dr) (c : Cn) (args : List Expr) : Option (Orc → Den) := match args with
  | [a] => chk (nst a) ((d.e c a).bind fun ma => some fun C => cLR1 (ma C))
  | [a, b] => chk (nst a && nst b) ((d.e c a).bind fun ma => (d.e c b).bind fun mb => some fun C => cLR2 (ma C) (mb C))
  | _ => .none
def isRng (c : Cn) (x : Str) : Bool := isGl c x && c.T.free.contains x && (x == ("range" : Str))
def isList : Bi → Bool
  | .list => true
  | _ => false
def bltD (d : Dr) (c : Cn) (b : Bi) (args : List Expr) : Option (Orc → Den) := match args with
  | [.ListComp elt gens scope _] => b.g.bind fun g => (lcP d c elt gens scope).bind fun li => some fun C => cBL g (li C)
  | [.Call (.Name r pr) as [] pc] => if (isRng c r && isList b && !c.hot) = true then lrgD d c as else bltA d c b [.Call (.Name r pr) as [] pc]
  | args => bltA d c b args
/-- a function of the module -/
def fnD (d : Dr) (c : Cn) (i : Nat) (args : List Expr) : Option (Orc → Den) := match args with
  | [] => some fun C => cCall C i aNil
  | args => (d.a c args).bind fun da => some fun C => cCall C i (da C)
/-- a call of a global name -/
def callD (d : Dr) (c : Cn) (x : Str) (args : List Expr) : Option (Orc → Den) :=
  chk (isGl c x && okN x) (match c.T.fns.lookup x with
    | some i => chk (!c.hot) (fnD d c i args)
    | .none => chk (c.T.free.contains x) (if x == ("isinstance" : Str) then isiD d c args else (biName x).bind fun b => chk (!c.hot || b.cool) (bltD d c b args)))
def cmpE (d : Dr) (c : Cn) (a : Expr) (ops : List CmpOp) (bs : List Expr) : Option (Orc → Den) := match ops, bs with
  | [op], [b] => chk (nset b) ((d.e c a).bind fun ma => (d.e c b).bind fun mb => some fun C => cCmp (copTo op) (ma C) (mb C))
  | [op, op'], [b, b'] => chk (nset b') ((d.e c a).bind fun ma => (d.e c b).bind fun mb => (d.e c b').bind fun mc => some fun C => cChn (copTo op) (copTo op') (ma C) (mb C) (mc C))
  | _, _ => .none
def cmpT (d : Dr) (c : Cn) (a : Expr) (ops : List CmpOp) (bs : List Expr) : Option (Orc → DenT) := match ops, bs with
  | [op], [b] => chk (nset b) ((d.e c a).bind fun ma => (d.e c b).bind fun mb => some fun C => tCmp (copTo op) (ma C) (mb C))
  | [op, op'], [b, b'] => chk (nset b') ((d.e c a).bind fun ma => (d.e c b).bind fun mb => (d.e c b').bind fun mc => some fun C => tChn (copTo op) (copTo op') (ma C) (mb C) (mc C))
  | _, _ => .none
def subE (d : Dr) (c : Cn) (a : Expr) (i : Expr) : Option (Orc → Den) := match i with
  | .Slice .none .none (some (.UnaryOp .USub (.Constant (.int 1) _ _) _)) _ => (d.e c a).bind fun ma => some fun C => c1 revD (ma C)
  | .Slice lo hi .none _ => (d.e c a).bind fun ma => (idxD d c lo).bind fun pl => (idxD d c hi).bind fun ph => some fun C => cSl (ma C) (pl C) (ph C)
  | i => chk (nslice i) ((d.e c a).bind fun ma => (d.e c i).bind fun mi => some fun C => c2 ixD (ma C) (mi C))
def metE (d : Dr) (c : Cn) (o : Expr) (name : Str) (args : List Expr) : Option (Orc → Den) := (meName name).bind fun m => (d.e c o).bind fun mo => match args with
  | [] => some fun C => cM m.c m.f (mo C) aNil
  | args => (d.a c args).bind fun da => some fun C => cM m.c m.f (mo C) (da C)
def rngI (d : Dr) (c : Cn) (args : List Expr) : Option (Orc → DenI) := match args with
  | [a] => chk (nst a) ((d.e c a).bind fun ma => some fun C => iRng1 (ma C))
  | [a, b] => chk (nst a && nst b) ((d.e c a).bind fun ma => (d.e c b).bind fun mb => some fun C => iRng2 (ma C) (mb C))
  | _ => .none
/-- tg = e, one target -/
def asgS (d : Dr) (c : Cn) (tg e : Expr) : Option (Orc → DenS) := (d.g c tg).bind fun q => (d.e c e).bind fun m => some fun C => sAsg (q.2 C) (m C)
def parS (d : Dr) (c : Cn) (ts vs : List Expr) : Option (Orc → DenS) := match ts with
  | [.Name x _, .Name y _] => (ixOf x c.N 0).bind fun i => (ixOf y c.N 0).bind fun j => chk (i != j && isLc c x && isLc c y && decide (vs.length = 2)) ((d.a c vs).bind fun da => some fun C => sPar i j (da C))
  | _ => .none
def tupS (d : Dr) (c : Cn) (ts : List Expr) (k : Nat) (p : Pos) (e : Expr) : Option (Orc → DenS) := match e with
  | .Tuple vs k' p' => (match parD c ts vs with
    | some (some _) => parS d c ts vs
    | some .none => asgS d c (.Tuple ts k p) (.Tuple vs k' p')
    | .none => .none)
  | e => chk (ncomp e) (asgS d c (.Tuple ts k p) e)
/-- y = [.. for ..] -/
def lcA (d : Dr) (c : Cn) (y : Str) (elt : Expr) (gens : List Comprehension) (scope : Scope) : Option (Orc → DenS) :=
  chk (isTg c y) ((ixOf y c.N 0).bind fun i => (lcP d c elt gens scope).bind fun li => some fun C => sAsg (gN i) (fun σ => bnd (li C σ) fun ys => alloc (.lst ys)))
def nmS (d : Dr) (c : Cn) (y : Str) (py : Pos) (e : Expr) : Option (Orc → DenS) := match e with
  | .ListComp elt gens scope _ => lcA d c y elt gens scope
  | e => chk (ncomp e) (asgS d c (.Name y py) e)
def stA (d : Dr) (c : Cn) (tgs : List Expr) (e : Expr) : Option (Orc → DenS) := match tgs with
  | [.Tuple ts k p] => tupS d c ts k p e
  | [.Name y py] => nmS d c y py e
  | [.Subscript o i p] => asgS d c (.Subscript o i p) e
  | _ => .none
def stTry (d : Dr) (c : Cn) (b : List Stmt) (hs : List ExceptHandler) : Option (Orc → DenS) := match hs with
  | [.ExceptHandler (some (.Name x _)) (some n) (h₀ :: h) _] => chk (isGl c x && okN x && isLc c n) ((c.T.excs.lookup x).bind fun cn => (ixOf n c.N 0).bind fun i => (d.ss c b).bind fun mb =>
        (d.ss { c with hot := true, top := false } (h₀ :: h)).bind fun mh => some fun C => sTry c.T.sup (mb C) cn i (mh C))
  | _ => .none
def stRaise (c : Cn) (e : Expr) : Option (Orc → DenS) := match e with
  | .Call (.Name x _) [.Constant (.str _) _ _] [] _ => chk (!c.hot && isGl c x && okN x) ((c.T.excs.lookup x).bind fun n => chk (c.T.plain n) (some fun _ => sRaise n))
  | _ => .none
def Dr.step (d : Dr) : Dr where
  e := fun c e => match e with
    | .Name x _ => chk (okN x) (if isVis c x = true then (ixOf x c.N 0).bind fun i => some fun _ => cVar i else chk (isGl c x) ((c.T.cons.lookup x).bind fun z => some fun _ => cK z))
    | .Constant k _ _ => (match k with
      | .int i => some fun _ => cK (.int i)
      | .bool b => some fun _ => cK (.bl b)
      | .none => some fun _ => cK .non
      | .str z => some fun _ => cK (.str z)
      | _ => .none)
    | .BinOp a op b _ => (op2 op).bind fun f => (d.e c a).bind fun ma => (d.e c b).bind fun mb => some fun C => c2 f (ma C) (mb C)
    | .UnaryOp op a _ => (match op with
      | .USub => (d.e c a).bind fun ma => some fun C => c1 negD (ma C)
      | .Not => (d.e c a).bind fun ma => some fun C => cNot (ma C)
      | _ => .none)
    | .Compare a ops bs _ => cmpE d c a ops bs
    | .BoolOp op es _ => d.v c op es
    | .IfExp t a b _ => (d.t c t).bind fun mt => (d.e c a).bind fun ma => (d.e c b).bind fun mb => some fun C => cIf (mt C) (ma C) (mb C)
    | .Tuple es _ _ => (d.a c es).bind fun da => some fun C => cTup (da C)
    | .List es _ => (d.a c es).bind fun da => some fun C => cLst (da C)
    | .Subscript a i _ => subE d c a i
    | .ListComp elt gens scope _ => (lcP d c elt gens scope).bind fun li => some fun C => fun σ => bnd (li C σ) fun ys => alloc (.lst ys)
    | .Attribute (.Name y _) n _ => chk (c.hot && isVis c y && okN y) ((ixOf y c.N 0).bind fun i => some fun _ => cFld (c.T.fld n) i)
    | .Call f args kws pos => (match kws with
      | [] => (match f with
        | .Name x _ => callD d c x args
        | .Attribute o name apos => chk (ncall0 o && (apos.endLine == pos.line) && decide (args.length < 29)) (metE d c o name args)
        | _ => .none)
      | _ => .none)
    | _ => .none
  t := fun c e => match e with
    | .UnaryOp .Not a _ => (d.t c a).bind fun ma => some fun C => tNot (ma C)
    | .BoolOp op es _ => d.w c op es
    | .Compare a ops bs _ => cmpT d c a ops bs
    | e => chk (tval e) ((d.e c e).bind fun m => some fun C => tVal (m C))
  w := fun c op es => match es with
    | [] => .none
    | [a] => d.t c a
    | a :: b :: r => (d.t c a).bind fun ma => (d.w c op (b :: r)).bind fun mb => some fun C => (match op with
      | .And => tAnd (ma C) (mb C)
      | .Or => tOr (ma C) (mb C))
  v := fun c op es => match es with
    | [] => .none
    | [a] => d.e c a
    | a :: b :: r => (d.e c a).bind fun ma => (d.v c op (b :: r)).bind fun mb => some fun C => (match op with
      | .And => cAnd (ma C) (mb C)
      | .Or => cOr (ma C) (mb C))
  a := fun c es => match es with
    | [] => some fun _ => aNil
    | e :: r => chk (nst e) ((d.e c e).bind fun ma => (d.a c r).bind fun mr => some fun C => aCons (ma C) (mr C))
  i := fun c e => match e with
    | .Call (.Name x p) args [] pos => if isRng c x = true then rngI d c args else (d.e c (.Call (.Name x p) args [] pos)).bind fun m => some fun C => iV (m C)
    | e => (d.e c e).bind fun m => some fun C => iV (m C)
  g := fun c e => match e with
    | .Name x _ => chk (isTg c x) ((ixOf x c.N 0).bind fun i => some ([i], fun _ => gN i))
    | .Tuple ts _ _ => chk (!c.hot) ((d.gs c ts).bind fun q => some (q.1, fun C => gT ts.length (q.2 C)))
    | .Subscript o i _ => chk (nslice i) ((d.e c o).bind fun mo => (d.e c i).bind fun mi => some ([], fun C => gI (mo C) (mi C)))
    | _ => .none
  gs := fun c es => match es with
    | [] => some ([], fun _ => gsNil)
    | e :: r => chk (nst e) ((d.g c e).bind fun q => (d.gs c r).bind fun q2 => some (q.1 ++ q2.1, fun C => gsCons (q.2 C) (q2.2 C)))
  s := fun c s => match s with
    | .Return e _ => (match e with
      | some e => (d.e c e).bind fun m => some fun C => sRet (m C)
      | .none => some fun _ => sRetN)
    | .Pass _ => some fun _ => sNil
    | .Break _ => some fun _ => sBrk
    | .Continue _ => some fun _ => sCnt
    | .Expr e _ => chk (ncomp e) ((d.e c e).bind fun m => some fun C => sExp (m C))
    | .If t b o _ => (d.t c t).bind fun mt => (d.ss c b).bind fun mb => (d.ss c o).bind fun mo => some fun C => sIf (mt C) (mb C) (mo C)
    | .Assign tgs e _ => chk c.top (stA d c tgs e)
    | .For tg iter b o _ => chk (c.top && nset iter) (match o with
      | [] => (d.i c iter).bind fun mi => (d.g c tg).bind fun q => (d.ss c b).bind fun mb => some fun C => sFor (mi C) (q.2 C) (mb C)
      | _ => .none)
    | .While t b o _ => chk c.top (match o with
      | [] => (d.t c t).bind fun mt => (d.ss c b).bind fun mb => some fun C => sWhile (mt C) (mb C)
      | _ => .none)
    | .Raise (some e) .none _ => stRaise c e
    | .Try b hs [] [] _ => chk c.top (stTry d c b hs)
    | _ => .none
  ss := fun c ss => match ss with
    | [] => some fun _ => sNil
    | s :: r => (d.s c s).bind fun m => (d.ss c r).bind fun mr => some fun C => sSeq (m C) (mr C)
def drN : Nat → Dr
  | 0 => Dr.none
  | n + 1 => (drN n).step
end Mini

set_option Elab.async false
set_option linter.all false
set_option maxRecDepth 100000
set_option maxHeartbeats 4000000
/-! # Mini, part K: the reader is sound -/
namespace Mini
open PySem PySem.Spec L2

structure Fit (G : Gt) (C : Orc) (k : Nat) (c : Cn) (X : Cx) (W : WX) (pn : List (Addr × Obj)) : Prop where
  K : X.K = G.K
  N : X.N = c.N
  nd : X.N.Nodup
  sc : X.env.scope = c.sc
  un : X.A.units + 64 < cLine
  tk : Takes X W
  calm : c.hot = false → X.calm = true
  pnil : c.hot = false → pn = []
  pin : ∀ q ∈ pn, q ∈ X.pn
  room : c.hot = false → Room k X.A
  cel : ∀ x, c.cells.contains x = true → X.fn x = true
  top : c.top = true → c.hot = false ∧ X.stack = X.env :: X.outer ∧ X.env.frame = some X.env.locals ∧ c.sc.kind = .function ∧ PassesOwn (model X.prog X.w) X.A X.env X.xe
  fns : ∀ x i, c.T.fns.lookup x = some i → ∃ f fd ps, X.mg x = some (.ref f) ∧ PySem.W.keepIn X.K (.ref f) = true ∧ Binds X.K fd ps [] ∧ FnOk X.prog X.w X.K X.mg X.base (L2.CX X.prog X.w) k f fd ps (spI G C i)
  cons : ∀ x d, c.T.cons.lookup x = some d → ∃ v u, X.mg x = some u ∧ RelV v u ∧ ∀ H ι, Rp G H ι d v
  excs : ∀ x n, c.T.excs.lookup x = some n → X.mg x = some (.ref (G.excA n))
  plain : ∀ n, c.T.plain n = true → PySem.W.excIn G.K (G.excA n) He.veBase "ValueError.__new__" = true ∧ PySem.W.keepIn G.K (.ref (G.excA n)) = true ∧ PySem.W.subIn G.K (.ref (G.excA n)) (.type "BaseException") = some true ∧ PySem.W.typeIn G.K (.ref (G.excA n)) = some (.type "type")
  fld : ∀ x n, c.T.fld x n = true → XfC G.K (G.excA n) ∧ PySem.W.findIn G.K (.ref (G.excA n)) x = some none ∧ G.excF n = [x]
  free : ∀ x, c.T.free.contains x = true → X.mg x = none
  sup : SupOk G c.T.sup
  exm : ∀ e n b, c.T.sup e n = some b → PySem.W.exmOne G.K (.ref (G.excA e)) (.ref (G.excA n)) = some b
section
variable {G : Gt} {C : Orc} {k : Nat} {c : Cn} {X : Cx} {W : WX} {pn : List (Addr × Obj)}
theorem Fit.gd (h : Fit G C k c X W pn) : Good G X W := ⟨h.K, h.nd, h.un, h.tk⟩
theorem Fit.blk (h : Fit G C k c X W pn) (hh : c.hot = false) (scope : Scope) (s : Shared) (H : Hp) (D : Addr) (cl : List (Str × Addr)) (fp : List Addr) : Fit G C k (c.blk scope) (X.blk s H scope (compEnvC scope cl D X.env) fp) W0 [] where
  K := h.K
  N := h.N
  nd := h.nd
  sc := by
    show relS scope X.env.scope = relS scope c.sc
    rw [h.sc]
  un := h.un
  tk := takes0
  calm := fun _ => h.calm hh
  pnil := fun _ => rfl
  pin := fun q hq => by cases hq
  room := fun _ => h.room hh
  cel := fun x hx => by
    show (scope.names.lookup x == some .cell) = true
    have hx : ((scope.names.filter fun y => y.2 == .cell && scope.names.lookup y.1 == some .cell).map (·.1)).contains x = true := hx
    rw [List.contains_iff_mem] at hx
    obtain ⟨y, hy, rfl⟩ := List.mem_map.mp hx
    have := (List.mem_filter.mp hy).2
    simp only [Bool.and_eq_true] at this
    exact this.2
  top := fun z => by cases z
  fns := h.fns
  cons := h.cons
  excs := h.excs
  plain := h.plain
  fld := h.fld
  free := h.free
  sup := h.sup
  exm := h.exm
theorem Fit.try_ (h : Fit G C k c X W []) (ht : c.top = true) {W' : WX} {pn' : List (Addr × Obj)} {xe : Value → Shared → Prop} (tk : Takes (X.tr pn' xe) W') (po : PassesOwn (model X.prog X.w) X.A X.env xe) : Fit G C k c (X.tr pn' xe) W' [] :=
  ⟨h.K, h.N, h.nd, h.sc, h.un, tk, h.calm, h.pnil, (fun q hq => by cases hq), h.room, h.cel, fun z => ⟨(h.top z).1, (h.top z).2.1, (h.top z).2.2.1, (h.top z).2.2.2.1, po⟩, h.fns, h.cons, h.excs, h.plain, h.fld, h.free, h.sup, h.exm⟩
theorem Fit.suite (h : Fit G C k c X W pn) (a : Addr) (oe : Obj) (pn' : List (Addr × Obj)) : Fit G C k { c with hot := true, top := false } (X.suite a ((a, oe) :: pn')) W0 [(a, oe)] :=
  ⟨h.K, h.N, h.nd, h.sc, h.un, takes0, (fun z => by cases z), (fun z => by cases z), (fun q hq => by rw [List.mem_singleton.mp hq]; exact List.mem_cons_self), (fun z => by cases z), h.cel, (fun z => by cases z), h.fns, h.cons, h.excs, h.plain, h.fld, h.free, h.sup, h.exm⟩
/-! ### small readings -/
theorem chk_some {α : Type} {b : Bool} {o : Option α} {x : α} (h : chk b o = some x) : b = true ∧ o = some x := by
  unfold chk at h
  split at h
  · exact ⟨by assumption, h⟩
  · cases h
theorem bind_some {α β : Type} {o : Option α} {f : α → Option β} {y : β} (h : o.bind f = some y) : ∃ x, o = some x ∧ f x = some y := Option.bind_eq_some_iff.mp h
theorem ixOf_at {x : Str} : ∀ {N : List Str} {n i : Nat}, ixOf x N n = some i → n ≤ i ∧ N[i - n]? = some x
  | [], _, _, h => by cases h
  | y :: r, n, i, h => by
    unfold ixOf at h
    split at h
    · rename_i e
      cases h
      rw [eq_of_beq e]
      exact ⟨Nat.le_refl _, by simp⟩
    · obtain ⟨h1, h2⟩ := ixOf_at h
      refine ⟨by omega, ?_⟩
      rw [show i - n = (i - (n + 1)) + 1 by omega, List.getElem?_cons_succ]
      exact h2
theorem Fit.ix (h : Fit G C k c X W pn) {x : Str} {i : Nat} (e : ixOf x c.N 0 = some i) : X.N[i]? = some x := by
  rw [h.N]
  exact (ixOf_at e).2
theorem Fit.vis (h : Fit G C k c X W pn) {x : Str} (e : isVis c x = true) : Vis X.env.scope x := by
  unfold isVis at e
  unfold Vis
  rw [h.sc]
  split at e
  · rename_i q; exact .inl q
  · rename_i q; exact .inr (.inl q)
  · rename_i q; exact .inr (.inr q)
  · cases e
theorem Fit.gl (h : Fit G C k c X W pn) {x : Str} (e : isGl c x = true) : Gl X x := by
  unfold isGl at e
  show X.env.scope.names.lookup x = some .globalImplicit
  rw [h.sc]
  split at e
  · assumption
  · cases e
theorem Fit.loc (h : Fit G C k c X W pn) {x : Str} (e : isLc c x = true) : X.env.scope.names.lookup x = some .local := by
  unfold isLc at e
  rw [h.sc]
  split at e
  · assumption
  · cases e
theorem Fit.tg (h : Fit G C k c X W pn) {x : Str} (e : isTg c x = true) : L2.Loc X.env.scope x ∧ (X.fn x = true ∨ X.env.scope.names.lookup x = some .local) := by
  unfold isTg at e
  unfold L2.Loc
  rw [h.sc]
  split at e
  · rename_i q; exact ⟨.inl q, .inr q⟩
  · rename_i q; exact ⟨.inr q, .inl (h.cel x e)⟩
  · cases e
theorem okN_ok {x : Str} (h : okN x = true) : (x == ("__debug__" : Str)) = false ∧ (x == ("__classdict__" : Str)) = false ∧ x ≠ "__name__" := by
  unfold okN at h
  simp only [Bool.and_eq_true, Bool.not_eq_true', beq_eq_false_iff_ne, ne_eq] at h
  obtain ⟨⟨h1, h2⟩, h3⟩ := h
  exact ⟨beq_eq_false_iff_ne.mpr h1, beq_eq_false_iff_ne.mpr h2, h3⟩
theorem nst_star {e : Expr} {es : List Expr} {env : PySem.Env} (h : nst e = true) : starEach (e :: es) env = (false, eval e env) :: starEach es env := by
  cases e <;> first | rfl | cases h
theorem nst_one {e : Expr} {env : PySem.Env} (h : nst e = true) : starEach [e] env = [(false, eval e env)] := nst_star h
theorem nst_two {e e' : Expr} {env : PySem.Env} (h : nst e = true) (h' : nst e' = true) : starEach [e, e'] env = [(false, eval e env), (false, eval e' env)] := by
  rw [nst_star h, nst_one h']
theorem nst_any {pos : Pos} {env : PySem.Env} : ∀ {es : List Expr}, es.all nst = true → (backTo pos (starEach es env)).any (·.1) = false
  | [], _ => rfl
  | e :: es, h => by
    rw [List.all_cons, Bool.and_eq_true] at h
    rw [nst_star h.1]
    show (false || (backTo pos (starEach es env)).any (·.1)) = false
    rw [nst_any h.2]
    rfl
theorem nst_all {pos : Pos} {env : PySem.Env} : ∀ {es : List Expr}, es.all nst = true → (backTo pos (starEach es env)).all (fun x => !x.1) = true
  | [], _ => rfl
  | e :: es, h => by
    rw [List.all_cons, Bool.and_eq_true] at h
    rw [nst_star h.1]
    show (true && (backTo pos (starEach es env)).all (fun x => !x.1)) = true
    rw [nst_all h.2]
    rfl
theorem nst_asg {e : Expr} {es : List Expr} {env : PySem.Env} (h : nst e = true) : assignEach (e :: es) env = (false, assign e env) :: assignEach es env := by
  cases e <;> first | rfl | cases h
theorem nst_len {env : PySem.Env} : ∀ {es : List Expr}, es.all nst = true → (assignEach es env).length = es.length
  | [], _ => rfl
  | e :: es, h => by
    rw [List.all_cons, Bool.and_eq_true] at h
    rw [nst_asg h.1, List.length_cons, nst_len h.2, List.length_cons]
theorem nst_find {env : PySem.Env} {es : List Expr} (h : es.all nst = true) : (assignEach es env).findIdx? (·.1) = none := by
  rw [List.findIdx?_eq_none_iff]
  induction es with
  | nil => intro x hx; cases hx
  | cons e es ih =>
    rw [List.all_cons, Bool.and_eq_true] at h
    rw [nst_asg h.1]
    intro x hx
    rcases List.mem_cons.mp hx with rfl | hx
    · rfl
    · exact ih h.2 x hx
theorem nset_fold {e : Expr} {env : PySem.Env} (h : nset e = true) : ∀ x, foldedSetIterable e env x = pure x := by
  intro x
  cases e <;> first | rfl | cases h
theorem nset_marks {op : CmpOp} {e : Expr} (h : nset e = true) : behindInMarks op e = false := by
  cases e <;> first | rfl | cases h
theorem nslice_plain {e : Expr} (h : nslice e = true) : PlainIx e := by
  intro o i
  cases e <;> first | rfl | cases h
theorem nslice_asg {o i : Expr} {pos : Pos} {env : PySem.Env} (h : nslice i = true) : ∀ u, assign (.Subscript o i pos) env u = (do
      let ov ← holding [u] (eval o env)
      let iv ← holding [u, ov] (eval i env)
      standAt pos
      holding [u, ov, iv] (setItem ov iv u)
      release [u, ov, iv] []) := by
  intro u
  cases i <;> first | rfl | cases h
theorem ncomp_swaps {e : Expr} {env : PySem.Env} {line : Nat} {t : Option Expr} (h : ncomp e = true) : swapsWith e t line env = pure false := by
  cases e <;> first | rfl | cases h
theorem ncomp_sole {e t : Expr} {env : PySem.Env} {line : Nat} (h : ncomp e = true) : swapsWithSole [t] e line env = pure false := ncomp_swaps (t := some t) h
theorem ncall_base {o : Expr} {a : Str} {env : PySem.Env} (h : ncall0 o = true) : attributeBase o a env (eval o env) = eval o env := by
  cases o with
  | Call f args kws p =>
    cases args with
    | nil => cases h
    | cons x r => cases f <;> rfl
  | _ => rfl
theorem tval_ok {e : Expr} {env : PySem.Env} (h : tval e = true) : ∀ whole, isTrue e env whole = (do let v ← whole; standAt e.pos; holding [v] (truthy v)) := by
  intro whole
  cases e <;> first | rfl | cases h
theorem copOf_to (op : CmpOp) : copOf (copTo op) = op := by cases op <;> rfl
section
variable {a b b' : Expr} {ma mb mc : Den} {pos : Pos} {op op' : CmpOp}
theorem je_cmpC (g : Good G X W) (ha : JE G X pn W a ma) (hb : JE G X pn W b mb) (h : nset b = true) : JE G X pn W (.Compare a [op] [b] pos) (cCmp (copTo op) ma mb) := by
  have q := je_cmp (op := copTo op) (pos := pos) g ha hb (nset_marks h)
  rw [copOf_to] at q
  exact q
theorem jt_cmpC (g : Good G X W) (ha : JE G X pn W a ma) (hb : JE G X pn W b mb) (h : nset b = true) : JT G X pn W (.Compare a [op] [b] pos) (tCmp (copTo op) ma mb) := by
  have q := jt_cmp (op := copTo op) (pos := pos) g ha hb (nset_marks h)
  rw [copOf_to] at q
  exact q
theorem je_chnC (g : Good G X W) (ha : JE G X pn W a ma) (hb : JE G X pn W b mb) (hc : JE G X pn W b' mc) (h : nset b' = true) : JE G X pn W (.Compare a [op, op'] [b, b'] pos) (cChn (copTo op) (copTo op') ma mb mc) := by
  have q := je_chn (op := copTo op) (op' := copTo op') (pos := pos) g ha hb hc (nset_marks h)
  rw [copOf_to, copOf_to] at q
  exact q
theorem jt_chnC (g : Good G X W) (ha : JE G X pn W a ma) (hb : JE G X pn W b mb) (hc : JE G X pn W b' mc) (h : nset b' = true) : JT G X pn W (.Compare a [op, op'] [b, b'] pos) (tChn (copTo op) (copTo op') ma mb mc) := by
  have q := jt_chn (op := copTo op) (op' := copTo op') (pos := pos) g ha hb hc (nset_marks h)
  rw [copOf_to, copOf_to] at q
  exact q
end
theorem op2_ok (g : Good G X W) {op : Operator} {f : D → D → M D} (h : op2 op = some f) : V2 G X W (binaryOp op) f := by
  cases op <;> simp only [op2, Option.some.injEq, reduceCtorEq] at h <;> subst h
  · exact v2_add g
  · exact v2_sub
  · exact v2_mul
  · exact v2_mod
  · exact v2_pow
  · exact v2_div
/-! ### built-ins -/
theorem bi_ok (h : Fit G C k c X W pn) {x : Str} {b : Bi} (e : biName x = some b) (hc : (!c.hot || b.cool) = true) :
    (∃ id, bootBuiltins x = some (.builtin id) ∧ VC G X W (.builtin id) b.f) ∨ (∃ T, bootBuiltins x = some (.type T) ∧ VC G X W (.type T) b.f) := by
  have calm : b.cool = false → X.calm = true := fun z => by
    rw [z, Bool.or_false] at hc
    exact h.calm (by simpa using hc)
  unfold biName at e
  split at e
  · rename_i q; rw [eq_of_beq q]; cases e; exact .inl ⟨"len", by decide +kernel, vc_len h.gd⟩
  · split at e
    · rename_i q; rw [eq_of_beq q]; cases e; exact .inl ⟨"abs", by decide +kernel, vc_abs⟩
    · split at e
      · rename_i q; rw [eq_of_beq q]; cases e; exact .inr ⟨"int", by decide +kernel, vc_int⟩
      · split at e
        · rename_i q; rw [eq_of_beq q]; cases e; exact .inl ⟨"min", by decide +kernel, vc_min (calm rfl)⟩
        · split at e
          · rename_i q; rw [eq_of_beq q]; cases e; exact .inl ⟨"max", by decide +kernel, vc_max (calm rfl)⟩
          · split at e
            · rename_i q; rw [eq_of_beq q]; cases e; exact .inl ⟨"sum", by decide +kernel, vc_sum h.gd (calm rfl)⟩
            · split at e
              · rename_i q; rw [eq_of_beq q]; cases e; exact .inl ⟨"all", by decide +kernel, (vs_all h.gd (calm rfl)).vc⟩
              · split at e
                · rename_i q; rw [eq_of_beq q]; cases e; exact .inl ⟨"any", by decide +kernel, (vs_any h.gd (calm rfl)).vc⟩
                · split at e
                  · rename_i q; rw [eq_of_beq q]; cases e; exact .inr ⟨"tuple", by decide +kernel, vc_tuple h.gd⟩
                  · split at e
                    · rename_i q; rw [eq_of_beq q]; cases e; exact .inr ⟨"list", by decide +kernel, vc_list h.gd⟩
                    · cases e
theorem bi_okS (h : Fit G C k c X W pn) {x : Str} {b : Bi} {f : List D → M D} (e : biName x = some b) (hg : b.g = some f) (hc : c.hot = false) :
    (∃ id, bootBuiltins x = some (.builtin id) ∧ VS G X W (.builtin id) f) ∨ (∃ T, bootBuiltins x = some (.type T) ∧ VS G X W (.type T) f) := by
  have calm : X.calm = true := h.calm hc
  unfold biName at e
  split at e
  · rename_i q; rw [eq_of_beq q]; cases e; cases hg; exact .inl ⟨"len", by decide +kernel, vs_len h.gd⟩
  · split at e
    · cases e; cases hg
    · split at e
      · cases e; cases hg
      · split at e
        · cases e; cases hg
        · split at e
          · cases e; cases hg
          · split at e
            · rename_i q; rw [eq_of_beq q]; cases e; cases hg; exact .inl ⟨"sum", by decide +kernel, vs_sum h.gd calm⟩
            · split at e
              · rename_i q; rw [eq_of_beq q]; cases e; cases hg; exact .inl ⟨"all", by decide +kernel, vs_all h.gd calm⟩
              · split at e
                · rename_i q; rw [eq_of_beq q]; cases e; cases hg; exact .inl ⟨"any", by decide +kernel, vs_any h.gd calm⟩
                · split at e
                  · rename_i q; rw [eq_of_beq q]; cases e; cases hg; exact .inr ⟨"tuple", by decide +kernel, vs_tuple h.gd⟩
                  · split at e
                    · rename_i q; rw [eq_of_beq q]; cases e; cases hg; exact .inr ⟨"list", by decide +kernel, vs_list h.gd⟩
                    · cases e
theorem isList_ok {x : Str} {b : Bi} (e : biName x = some b) (h : isList b = true) : x = "list" := by
  cases b <;> first | (cases h; done) | skip
  unfold biName at e
  repeat' split at e
  all_goals first | (cases e; done) | (rename_i q; exact eq_of_beq q)
theorem me_ok (g : Good G X W) {x : Str} {m : Me} (e : meName x = some m) : Looks1 m.c ∧ VM G X W x m.c m.f := by
  unfold meName at e
  split at e
  · rename_i q; rw [eq_of_beq q]; cases e; exact ⟨looks_lst, vm_append g⟩
  · split at e
    · rename_i q; rw [eq_of_beq q]; cases e; exact ⟨looks_lst, vm_pop g⟩
    · cases e
theorem tyName_ok {x : Str} {t : Ty} (e : tyName x = some t) : ∃ T, bootBuiltins x = some (.type T) ∧ tyV' G t = .ty T := by
  unfold tyName at e
  split at e
  · rename_i q; rw [eq_of_beq q]; cases e; exact ⟨"int", by decide +kernel, rfl⟩
  · split at e
    · rename_i q; rw [eq_of_beq q]; cases e; exact ⟨"bool", by decide +kernel, rfl⟩
    · split at e
      · rename_i q; rw [eq_of_beq q]; cases e; exact ⟨"str", by decide +kernel, rfl⟩
      · split at e
        · rename_i q; rw [eq_of_beq q]; cases e; exact ⟨"tuple", by decide +kernel, rfl⟩
        · split at e
          · rename_i q; rw [eq_of_beq q]; cases e; exact ⟨"list", by decide +kernel, rfl⟩
          · split at e
            · rename_i q; rw [eq_of_beq q]; cases e; exact ⟨"dict", by decide +kernel, rfl⟩
            · split at e
              · rename_i q; rw [eq_of_beq q]; cases e; exact ⟨"ValueError", by decide +kernel, rfl⟩
              · cases e
theorem ty_ok (h : Fit G C k c X W pn) {e : Expr} {t : Ty} (q : tyOf c e = some t) : PE X e (tC (tyV' G t)) ∧ nst e = true := by
  unfold tyOf at q
  split at q
  · obtain ⟨h1, q⟩ := chk_some q
    rw [Bool.and_eq_true] at h1
    obtain ⟨n1, n2, n3⟩ := okN_ok h1.2
    refine ⟨?_, rfl⟩
    split at q
    · rename_i n e1
      cases q
      exact pe_glob (h.gl h1.1) (h.excs _ _ e1) rfl n1
    · obtain ⟨h2, q⟩ := chk_some q
      obtain ⟨T, hb, ht⟩ := tyName_ok (G := G) q
      rw [ht]
      exact pe_bltn (h.gl h1.1) (h.free _ h2) hb rfl n3 n1
  · cases q
theorem tys_ok (h : Fit G C k c X W pn) : ∀ {es : List Expr} {ts : List Ty}, tysOf c es = some ts → PA X es (tTys G ts)
  | [], ts, q => by
    cases q
    exact pa_ty0
  | e :: es, ts, q => by
    unfold tysOf at q
    obtain ⟨h1, q⟩ := chk_some q
    obtain ⟨t, e1, q⟩ := bind_some q
    obtain ⟨r, e2, q⟩ := Option.map_eq_some_iff.mp q
    subst q
    exact pa_ty1 (ty_ok h e1).1 (tys_ok h e2) (nst_star h1)
end
end Mini

set_option Elab.async false
set_option linter.all false
set_option maxRecDepth 100000
set_option maxHeartbeats 4000000
/-! # Mini, part L: the reader is sound: expressions -/
namespace Mini
open PySem PySem.Spec L2

structure Snd (d : Dr) : Prop where
  e : ∀ {G : Gt} {C : Orc} {k : Nat} {c : Cn} {X : Cx} {W : WX} {pn : List (Addr × Obj)}, Fit G C k c X W pn → ∀ {e : Expr} {m : Orc → Den}, d.e c e = some m → JE G X pn W e (m C)
  t : ∀ {G : Gt} {C : Orc} {k : Nat} {c : Cn} {X : Cx} {W : WX} {pn : List (Addr × Obj)}, Fit G C k c X W pn → ∀ {e : Expr} {m : Orc → DenT}, d.t c e = some m → JT G X pn W e (m C)
  w : ∀ {G : Gt} {C : Orc} {k : Nat} {c : Cn} {X : Cx} {W : WX} {pn : List (Addr × Obj)}, Fit G C k c X W pn → ∀ {op : BoolOp} {es : List Expr} {m : Orc → DenT}, d.w c op es = some m → ∀ pos, JW G X pn W (.BoolOp op es pos) (m C)
  v : ∀ {G : Gt} {C : Orc} {k : Nat} {c : Cn} {X : Cx} {W : WX} {pn : List (Addr × Obj)}, Fit G C k c X W pn → ∀ {op : BoolOp} {es : List Expr} {m : Orc → Den}, d.v c op es = some m → ∀ pos, JE G X pn W (.BoolOp op es pos) (m C)
  a : ∀ {G : Gt} {C : Orc} {k : Nat} {c : Cn} {X : Cx} {W : WX} {pn : List (Addr × Obj)}, Fit G C k c X W pn → ∀ {es : List Expr} {m : Orc → DenA}, d.a c es = some m → JA G X pn W es (m C) ∧ es.all nst = true
  i : ∀ {G : Gt} {C : Orc} {k : Nat} {c : Cn} {X : Cx} {W : WX} {pn : List (Addr × Obj)}, Fit G C k c X W pn → ∀ {e : Expr} {m : Orc → DenI}, d.i c e = some m → ∀ tg, JI G X pn W tg e (m C)
  g : ∀ {G : Gt} {C : Orc} {k : Nat} {c : Cn} {X : Cx} {W : WX} {pn : List (Addr × Obj)}, Fit G C k c X W pn → ∀ {e : Expr} {q : List Nat × (Orc → DenG)}, d.g c e = some q → JG G X pn q.1 e (q.2 C)
  gs : ∀ {G : Gt} {C : Orc} {k : Nat} {c : Cn} {X : Cx} {W : WX} {pn : List (Addr × Obj)}, Fit G C k c X W pn → ∀ {es : List Expr} {q : List Nat × (Orc → DenGs)}, d.gs c es = some q → JGs G X pn q.1 es (q.2 C) ∧ es.all nst = true
  s : ∀ {G : Gt} {C : Orc} {k : Nat} {c : Cn} {X : Cx} {W : WX} {pn : List (Addr × Obj)}, Fit G C k c X W pn → ∀ {s : Stmt} {m : Orc → DenS}, d.s c s = some m → JS G X pn W s (m C)
  ss : ∀ {G : Gt} {C : Orc} {k : Nat} {c : Cn} {X : Cx} {W : WX} {pn : List (Addr × Obj)}, Fit G C k c X W pn → ∀ {s : List Stmt} {m : Orc → DenS}, d.ss c s = some m → JSs G X pn W s (m C)
theorem snd_none : Snd Dr.none where
  e := by intro _ _ _ _ _ _ _ _ _ _ h; cases h
  t := by intro _ _ _ _ _ _ _ _ _ _ h; cases h
  w := by intro _ _ _ _ _ _ _ _ _ _ _ h; cases h
  v := by intro _ _ _ _ _ _ _ _ _ _ _ h; cases h
  a := by intro _ _ _ _ _ _ _ _ _ _ h; cases h
  i := by intro _ _ _ _ _ _ _ _ _ _ h; cases h
  g := by intro _ _ _ _ _ _ _ _ _ _ h; cases h
  gs := by intro _ _ _ _ _ _ _ _ _ _ h; cases h
  s := by intro _ _ _ _ _ _ _ _ _ _ h; cases h
  ss := by intro _ _ _ _ _ _ _ _ _ _ h; cases h
section
variable {d : Dr} (S : Snd d) {G : Gt} {C : Orc} {k : Nat} {c : Cn} {X : Cx} {W : WX} {pn : List (Addr × Obj)} (F : Fit G C k c X W pn)
include S F
/-- the parts of a comprehension, as the rules want them -/
theorem lcP_ok {elt : Expr} {gens : List Comprehension} {scope : Scope} {m : Orc → Mini.Env → M (List D)} (h : lcP d c elt gens scope = some m) :
    ∃ (tg iter : Expr) (ifs : List Expr) (mi : DenI) (mg : DenG) (tt : DenT) (me : Den) (sl : List Nat), gens = [⟨tg, iter, ifs, 0⟩] ∧ c.hot = false ∧ m C = lcI ((ownOf c.N scope.names).map (·.2)) mi mg tt me ∧ JI G X pn W tg iter mi ∧ BlkOk X.N X.env.scope scope (ownOf c.N scope.names) ∧
      (∀ j ∈ sl, j ∈ (ownOf c.N scope.names).map (·.2)) ∧ (∀ (s : Shared) (H : Hp) (D : Addr) (cl : List (Str × Addr)) (fp : List Addr), JG G (X.blk s H scope (compEnvC scope cl D X.env) fp) [] sl tg mg) ∧
      (∀ (s : Shared) (H : Hp) (D : Addr) (cl : List (Str × Addr)) (fp : List Addr), PTs (X.blk s H scope (compEnvC scope cl D X.env) fp) ifs (tT G [] W0 tt)) ∧
      (∀ (s : Shared) (H : Hp) (D : Addr) (cl : List (Str × Addr)) (fp : List Addr), JE G (X.blk s H scope (compEnvC scope cl D X.env) fp) [] W0 elt me) ∧ (∀ x, foldedSetIterable iter X.env x = pure x) := by
  unfold lcP at h
  split at h
  · rename_i tg iter ifs
    obtain ⟨h1, h⟩ := chk_some h
    rw [Bool.and_eq_true, Bool.and_eq_true] at h1
    obtain ⟨⟨hh, hb⟩, hn⟩ := h1
    have hh : c.hot = false := by simpa using hh
    obtain ⟨mi, e1, h⟩ := bind_some h
    obtain ⟨sg, e2, h⟩ := bind_some h
    obtain ⟨h2, h⟩ := chk_some h
    obtain ⟨mt, e3, h⟩ := bind_some h
    obtain ⟨me, e4, h⟩ := bind_some h
    cases h
    refine ⟨tg, iter, ifs, mi C, sg.2 C, mt C, me C, sg.1, rfl, hh, rfl, S.i F e1 tg, blkOk_by (by rw [F.N, F.sc]; exact hb), fun j hj => ?_, fun s H D cl fp => S.g (F.blk hh scope s H D cl fp) e2, fun s H D cl fp => ?_, fun s H D cl fp => S.e (F.blk hh scope s H D cl fp) e4, nset_fold hn⟩
    · have := List.all_eq_true.mp h2 j hj
      rw [List.contains_iff_mem] at this
      exact this
    · cases ifs with
      | nil =>
        cases e3
        exact ⟨fun pins s σ H Q I ⟨σd, μ, ι, ed, sd, o⟩ => pts_nil.run pins s σ H Q I (o.ret_ sd)⟩
      | cons t r =>
        cases r with
        | nil => exact pts_one (S.t (F.blk hh scope s H D cl fp) e3)
        | cons t2 r => cases e3
  · cases h
theorem je_isiD {args : List Expr} {m : Orc → Den} {p pos : Pos} (hg : Gl X "isinstance") (hm : X.mg "isinstance" = none) (h : isiD d c args = some m) : JE G X pn W (.Call (.Name "isinstance" p) args [] pos) (m C) := by
  unfold isiD at h
  split at h
  · split at h
    · obtain ⟨h3, h⟩ := chk_some h
      rw [Bool.and_eq_true] at h3
      obtain ⟨i, e1, h⟩ := bind_some h
      obtain ⟨ts, e2, h⟩ := bind_some h
      obtain ⟨h4, h⟩ := chk_some h
      cases h
      obtain ⟨m1, m2, m3⟩ := okN_ok h3.2
      exact je_isE (by simpa using h4) F.K F.sup F.pin (F.ix e1) (F.vis h3.1) m1 m2 hg hm (tys_ok F e2)
    · obtain ⟨ma, e1, h⟩ := bind_some h
      obtain ⟨ts, e2, h⟩ := bind_some h
      obtain ⟨h4, h⟩ := chk_some h
      cases h
      exact je_is F.gd (by simpa using h4) hg hm (S.e F e1) (tys_ok F e2) rfl rfl
  · split at h
    · obtain ⟨h3, h⟩ := chk_some h
      rw [Bool.and_eq_true, Bool.and_eq_true] at h3
      obtain ⟨i, e1, h⟩ := bind_some h
      obtain ⟨t, e2, h⟩ := bind_some h
      cases h
      obtain ⟨m1, m2, m3⟩ := okN_ok h3.1.2
      exact je_isE1 F.K F.sup F.pin (F.ix e1) (F.vis h3.1.1) m1 m2 hg hm (ty_ok F e2).1 (nst_one h3.2)
    · obtain ⟨h3, h⟩ := chk_some h
      obtain ⟨ma, e1, h⟩ := bind_some h
      obtain ⟨t, e2, h⟩ := bind_some h
      cases h
      exact je_is1 F.gd hg hm (S.e F e1) (ty_ok F e2).1 (nst_two rfl h3) (nst_one h3)
  · obtain ⟨h3, h⟩ := chk_some h
    obtain ⟨ma, e1, h⟩ := bind_some h
    obtain ⟨ts, e2, h⟩ := bind_some h
    obtain ⟨h4, h⟩ := chk_some h
    cases h
    exact je_is F.gd (by simpa using h4) hg hm (S.e F e1) (tys_ok F e2) (nst_two h3 rfl) rfl
  · obtain ⟨h3, h⟩ := chk_some h
    rw [Bool.and_eq_true] at h3
    obtain ⟨ma, e1, h⟩ := bind_some h
    obtain ⟨t, e2, h⟩ := bind_some h
    cases h
    exact je_is1 F.gd hg hm (S.e F e1) (ty_ok F e2).1 (nst_two h3.1 h3.2) (nst_one h3.2)
  · cases h
theorem je_bltA {x : Str} {b : Bi} {args : List Expr} {m : Orc → Den} {p pos : Pos} (hg : Gl X x) (hm : X.mg x = none) (hx : okN x = true) (eb : biName x = some b) (hc : (!c.hot || b.cool) = true) (h : bltA d c b args = some m) : JE G X pn W (.Call (.Name x p) args [] pos) (m C) := by
  obtain ⟨n1, n2, n3⟩ := okN_ok hx
  unfold bltA at h
  split at h
  · cases h
  · rename_i hne
    obtain ⟨da, e1, h⟩ := bind_some h
    cases h
    obtain ⟨ja, al⟩ := S.a F e1
    cases args with
    | nil => exact absurd rfl hne
    | cons a es =>
      rw [List.all_cons, Bool.and_eq_true] at al
      rcases bi_ok F eb hc with ⟨id, b1, b2⟩ | ⟨T, b1, b2⟩
      · exact je_B b2 hg hm b1 n3 n1 ja (nst_star al.1) (nst_any al.2)
      · exact je_Ty b2 hg hm b1 n3 n1 ja (nst_star al.1) (nst_any al.2)
theorem je_bltD {x : Str} {b : Bi} {args : List Expr} {m : Orc → Den} {p pos : Pos} (hg : Gl X x) (hm : X.mg x = none) (hx : okN x = true) (eb : biName x = some b) (hc : (!c.hot || b.cool) = true) (h : bltD d c b args = some m) : JE G X pn W (.Call (.Name x p) args [] pos) (m C) := by
  obtain ⟨n1, n2, n3⟩ := okN_ok hx
  unfold bltD at h
  split at h
  · obtain ⟨g, eg, h⟩ := bind_some h
    obtain ⟨li, el, h⟩ := bind_some h
    cases h
    obtain ⟨tg, iter, ifs, mi, mg, tt, me, sl, rfl, hh, q1, q2, q3, q4, q5, q6, q7, q8⟩ := lcP_ok S F el
    have hp := F.pnil hh
    subst hp
    show JE G X [] W _ (cBL g (li C))
    rw [q1]
    rcases bi_okS F eb eg hh with ⟨id, b1, b2⟩ | ⟨T, b1, b2⟩
    · exact je_BLc b2 hg hm b1 n3 n1 (F.calm hh) F.nd q2 q3 q4 q5 q6 q7 q8
    · exact je_TyLc b2 hg hm b1 n3 n1 (F.calm hh) F.nd q2 q3 q4 q5 q6 q7 q8
  · split at h
    · rename_i hr
      rw [Bool.and_eq_true, Bool.and_eq_true] at hr
      obtain ⟨⟨hr1, hr2⟩, hr3⟩ := hr
      unfold isRng at hr1
      rw [Bool.and_eq_true, Bool.and_eq_true] at hr1
      obtain ⟨⟨rg, rf⟩, rx⟩ := hr1
      have rx := eq_of_beq rx
      have bx := isList_ok eb hr2
      subst rx bx
      have hh : c.hot = false := by simpa using hr3
      unfold lrgD at h
      split at h
      · obtain ⟨h1, h⟩ := chk_some h
        obtain ⟨ma, e1, h⟩ := bind_some h
        cases h
        exact je_LR1 (F.calm hh) hg hm (F.gl rg) (F.free _ rf) (S.e F e1) (nst_one h1)
      · obtain ⟨h1, h⟩ := chk_some h
        rw [Bool.and_eq_true] at h1
        obtain ⟨ma, e1, h⟩ := bind_some h
        obtain ⟨mb, e2, h⟩ := bind_some h
        cases h
        exact je_LR2 (F.calm hh) hg hm (F.gl rg) (F.free _ rf) (S.e F e1) (S.e F e2) (nst_two h1.1 h1.2) (nst_one h1.2)
      · cases h
    · exact je_bltA S F hg hm hx eb hc h
  · exact je_bltA S F hg hm hx eb hc h
theorem je_fnD {x : Str} {i : Nat} {args : List Expr} {m : Orc → Den} {p pos : Pos} (hg : Gl X x) (hx : okN x = true) (ei : c.T.fns.lookup x = some i) (hh : c.hot = false) (h : fnD d c i args = some m) : JE G X pn W (.Call (.Name x p) args [] pos) (m C) := by
  obtain ⟨n1, n2, n3⟩ := okN_ok hx
  obtain ⟨f, fd, ps, q1, q2, q3, q4⟩ := F.fns _ _ ei
  unfold fnD at h
  split at h
  · cases h
    exact je_call0 q4 (F.room hh) hg q1 q2 q3 F.tk n1
  · rename_i hne
    obtain ⟨da, e1, h⟩ := bind_some h
    cases h
    obtain ⟨ja, al⟩ := S.a F e1
    cases args with
    | nil => exact absurd rfl hne
    | cons a es =>
      rw [List.all_cons, Bool.and_eq_true] at al
      exact je_call q4 (F.room hh) hg q1 q2 q3 F.tk ja n1 (nst_star al.1) (nst_any al.2)
theorem je_callD {x : Str} {args : List Expr} {m : Orc → Den} {p pos : Pos} (h : callD d c x args = some m) : JE G X pn W (.Call (.Name x p) args [] pos) (m C) := by
  unfold callD at h
  obtain ⟨h1, h⟩ := chk_some h
  rw [Bool.and_eq_true] at h1
  have hg := F.gl h1.1
  cases e : c.T.fns.lookup x with
  | some i =>
    rw [e] at h
    dsimp only at h
    obtain ⟨hh, h⟩ := chk_some h
    exact je_fnD S F hg h1.2 e (by simpa using hh) h
  | none =>
    rw [e] at h
    dsimp only at h
    obtain ⟨h2, h⟩ := chk_some h
    have hm := F.free _ h2
    by_cases hx : (x == ("isinstance" : Str)) = true
    · rw [if_pos hx] at h
      have hx := eq_of_beq hx
      subst hx
      first
        | exact je_isiD S F hg hm h
        | (rw [if_pos (by simp)] at h; exact je_isiD S F hg hm h)
        | (rw [if_pos (by simp)] at h; exact je_isiD S F hg hm (chk_some h).2)
    · rw [if_neg hx] at h
      obtain ⟨b, eb, h⟩ := bind_some h
      obtain ⟨h3, h⟩ := chk_some h
      exact je_bltD S F hg hm h1.2 eb h3 h
end
end Mini

set_option Elab.async false
set_option linter.all false
set_option maxRecDepth 100000
set_option maxHeartbeats 4000000
/-! # Mini, part M: the reader is sound: a step -/
namespace Mini
open PySem PySem.Spec L2
section
variable {d : Dr} (S : Snd d) {G : Gt} {C : Orc} {k : Nat} {c : Cn} {X : Cx} {W : WX} {pn : List (Addr × Obj)} (F : Fit G C k c X W pn)
include S F
theorem idx_ok {e : Option Expr} {m : Orc → DenP} (h : idxD d c e = some m) : JP G X pn W e (m C) := by
  cases e with
  | none =>
    cases h
    exact jp_no
  | some e =>
    obtain ⟨m', e1, h⟩ := bind_some h
    cases h
    exact jp_some (S.e F e1)
theorem step_e {e : Expr} {m : Orc → Den} (h : d.step.e c e = some m) : JE G X pn W e (m C) := by
  cases e with
  | Name x p =>
    obtain ⟨h1, h⟩ := chk_some h
    obtain ⟨n1, n2, n3⟩ := okN_ok h1
    split at h
    · rename_i hv
      obtain ⟨i, e1, h⟩ := bind_some h
      cases h
      exact je_var (F.ix e1) (F.vis hv) n1 n2
    · obtain ⟨hg, h⟩ := chk_some h
      obtain ⟨z, e1, h⟩ := bind_some h
      cases h
      obtain ⟨v, u, q1, q2, q3⟩ := F.cons _ _ e1
      exact je_glob (F.gl hg) q1 q2 q3 n1
  | Constant k j p =>
    cases k <;> first | (cases h; done) | (cases h; exact je_int) | (cases h; exact je_bl) | (cases h; exact je_non) | (cases h; exact je_str)
  | BinOp a op b p =>
    obtain ⟨f, e0, h⟩ := bind_some h
    obtain ⟨ma, e1, h⟩ := bind_some h
    obtain ⟨mb, e2, h⟩ := bind_some h
    cases h
    exact je_bin (op2_ok F.gd e0) (S.e F e1) (S.e F e2)
  | UnaryOp op a p =>
    cases op <;> first | (cases h; done) | skip
    · obtain ⟨ma, e1, h⟩ := bind_some h
      cases h
      exact je_not (S.e F e1)
    · obtain ⟨ma, e1, h⟩ := bind_some h
      cases h
      exact je_un v1_neg (S.e F e1) (by decide)
  | Compare a ops bs p =>
    have h : cmpE d c a ops bs = some m := h
    unfold cmpE at h
    split at h
    · obtain ⟨h1, h⟩ := chk_some h
      obtain ⟨ma, e1, h⟩ := bind_some h
      obtain ⟨mb, e2, h⟩ := bind_some h
      cases h
      exact je_cmpC F.gd (S.e F e1) (S.e F e2) h1
    · obtain ⟨h1, h⟩ := chk_some h
      obtain ⟨ma, e1, h⟩ := bind_some h
      obtain ⟨mb, e2, h⟩ := bind_some h
      obtain ⟨mc, e3, h⟩ := bind_some h
      cases h
      exact je_chnC F.gd (S.e F e1) (S.e F e2) (S.e F e3) h1
    · cases h
  | BoolOp op es p => exact S.v F h p
  | IfExp t a b p =>
    obtain ⟨mt, e0, h⟩ := bind_some h
    obtain ⟨ma, e1, h⟩ := bind_some h
    obtain ⟨mb, e2, h⟩ := bind_some h
    cases h
    exact je_ife (S.t F e0) (S.e F e1) (S.e F e2)
  | Tuple es k p =>
    obtain ⟨da, e1, h⟩ := bind_some h
    cases h
    exact je_tup (S.a F e1).1
  | List es p =>
    obtain ⟨da, e1, h⟩ := bind_some h
    cases h
    exact je_lst (S.a F e1).1
  | Subscript a i p =>
    have h : subE d c a i = some m := h
    unfold subE at h
    split at h
    · obtain ⟨ma, e1, h⟩ := bind_some h
      cases h
      exact je_rev F.gd (S.e F e1)
    · obtain ⟨ma, e1, h⟩ := bind_some h
      obtain ⟨pl, e2, h⟩ := bind_some h
      obtain ⟨ph, e3, h⟩ := bind_some h
      cases h
      exact je_sl F.gd (S.e F e1) (idx_ok S F e2) (idx_ok S F e3)
    · obtain ⟨h1, h⟩ := chk_some h
      obtain ⟨ma, e1, h⟩ := bind_some h
      obtain ⟨mi, e2, h⟩ := bind_some h
      cases h
      exact je_ix F.gd (S.e F e1) (S.e F e2) (nslice_plain h1)
  | ListComp elt gens scope p =>
    obtain ⟨li, el, h⟩ := bind_some h
    cases h
    obtain ⟨tg, iter, ifs, mi, mg, tt, me, sl, rfl, hh, q1, q2, q3, q4, q5, q6, q7, q8⟩ := lcP_ok S F el
    have hp := F.pnil hh
    subst hp
    show JE G X [] W _ (fun σ => bnd (li C σ) fun ys => alloc (.lst ys))
    rw [q1]
    exact je_lc (F.calm hh) F.nd q2 q3 q4 q5 q6 q7 q8
  | Attribute o n p =>
    cases o <;> first | (cases h; done) | skip
    rename_i y py
    obtain ⟨h1, h⟩ := chk_some h
    rw [Bool.and_eq_true, Bool.and_eq_true] at h1
    obtain ⟨i, e1, h⟩ := bind_some h
    cases h
    obtain ⟨n1, n2, n3⟩ := okN_ok h1.2
    exact je_fld F.K F.pin (F.ix e1) (F.vis h1.1.2) n1 n2 (F.fld n)
  | Call f args kws p =>
    cases kws with
    | cons q r => cases h
    | nil =>
      cases f <;> first | (cases h; done) | skip
      · rename_i o name apos
        obtain ⟨h1, h⟩ := chk_some h
        rw [Bool.and_eq_true, Bool.and_eq_true] at h1
        obtain ⟨mm, e0, h⟩ := bind_some h
        obtain ⟨mo, e1, h⟩ := bind_some h
        obtain ⟨lk, vm⟩ := me_ok F.gd e0
        split at h
        · cases h
          exact je_M0 F.gd lk vm (S.e F e1) (ncall_base h1.1.1) h1.1.2
        · rename_i hne
          obtain ⟨da, e2, h⟩ := bind_some h
          cases h
          obtain ⟨ja, al⟩ := S.a F e2
          cases args with
          | nil => exact absurd rfl hne
          | cons a es =>
            have hl : (a :: es).length < 29 := by simpa using h1.2
            rw [List.all_cons, Bool.and_eq_true] at al
            refine je_M F.gd lk vm (S.e F e1) ja (ncall_base h1.1.1) ?_ h1.1.2 (nst_star al.1) (nst_any al.2)
            rw [Bool.and_eq_true, Bool.and_eq_true]
            refine ⟨⟨nst_all (by rw [List.all_cons, Bool.and_eq_true]; exact al), rfl⟩, ?_⟩
            rw [decide_eq_true_eq]
            show (a :: es).length + 0 + 0 < 30
            omega
      · exact je_callD S F h
  | _ => cases h
theorem step_t {e : Expr} {m : Orc → DenT} (h : d.step.t c e = some m) : JT G X pn W e (m C) := by
  have dflt : chk (tval e) ((d.e c e).bind fun m => some fun C => tVal (m C)) = some m → JT G X pn W e (m C) := fun h => by
    obtain ⟨h1, h⟩ := chk_some h
    obtain ⟨ma, e1, h⟩ := bind_some h
    cases h
    exact jt_val F.gd (S.e F e1) (tval_ok h1)
  cases e with
  | UnaryOp op a p =>
    cases op <;> first | exact dflt h | skip
    obtain ⟨ma, e1, h⟩ := bind_some h
    cases h
    exact jt_not (S.t F e1)
  | BoolOp op es p => exact jw_jt (S.w F h p)
  | Compare a ops bs p =>
    have h : cmpT d c a ops bs = some m := h
    clear dflt
    unfold cmpT at h
    split at h
    · obtain ⟨h1, h⟩ := chk_some h
      obtain ⟨ma, e1, h⟩ := bind_some h
      obtain ⟨mb, e2, h⟩ := bind_some h
      cases h
      exact jt_cmpC F.gd (S.e F e1) (S.e F e2) h1
    · obtain ⟨h1, h⟩ := chk_some h
      obtain ⟨ma, e1, h⟩ := bind_some h
      obtain ⟨mb, e2, h⟩ := bind_some h
      obtain ⟨mc, e3, h⟩ := bind_some h
      cases h
      exact jt_chnC F.gd (S.e F e1) (S.e F e2) (S.e F e3) h1
    · cases h
  | _ => exact dflt h
theorem step_w {op : BoolOp} {es : List Expr} {m : Orc → DenT} (h : d.step.w c op es = some m) (pos : Pos) : JW G X pn W (.BoolOp op es pos) (m C) := by
  cases es with
  | nil => cases h
  | cons a r =>
    cases r with
    | nil => cases op with
      | And => exact jw_and1 (S.t F h)
      | Or => exact jw_or1 (S.t F h)
    | cons b r =>
      obtain ⟨ma, e1, h⟩ := bind_some h
      obtain ⟨mb, e2, h⟩ := bind_some h
      cases h
      cases op with
      | And => exact jw_and (S.t F e1) (S.w F e2 pos)
      | Or => exact jw_or (S.t F e1) (S.w F e2 pos)
theorem step_v {op : BoolOp} {es : List Expr} {m : Orc → Den} (h : d.step.v c op es = some m) (pos : Pos) : JE G X pn W (.BoolOp op es pos) (m C) := by
  cases es with
  | nil => cases h
  | cons a r =>
    cases r with
    | nil => exact je_one (S.e F h)
    | cons b r =>
      obtain ⟨ma, e1, h⟩ := bind_some h
      obtain ⟨mb, e2, h⟩ := bind_some h
      cases h
      cases op with
      | And => exact je_and (S.e F e1) (S.v F e2 pos)
      | Or => exact je_or (S.e F e1) (S.v F e2 pos)
theorem step_a {es : List Expr} {m : Orc → DenA} (h : d.step.a c es = some m) : JA G X pn W es (m C) ∧ es.all nst = true := by
  cases es with
  | nil =>
    cases h
    exact ⟨ja_nil, rfl⟩
  | cons e r =>
    obtain ⟨h1, h⟩ := chk_some h
    obtain ⟨ma, e1, h⟩ := bind_some h
    obtain ⟨mr, e2, h⟩ := bind_some h
    cases h
    obtain ⟨q1, q2⟩ := S.a F e2
    exact ⟨ja_cons (S.e F e1) q1 (nst_star h1), by rw [List.all_cons, h1, q2]; rfl⟩
theorem step_i {e : Expr} {m : Orc → DenI} (h : d.step.i c e = some m) (tg : Expr) : JI G X pn W tg e (m C) := by
  have dflt : ((d.e c e).bind fun m => some fun C => iV (m C)) = some m → JI G X pn W tg e (m C) := fun h => by
    obtain ⟨ma, e1, h⟩ := bind_some h
    cases h
    exact ji_V F.gd (S.e F e1)
  cases e with
  | Call f args kws p =>
    cases f <;> first | exact dflt h | skip
    cases kws with
    | cons q r => exact dflt h
    | nil =>
      rename_i x px
      replace h : (if isRng c x = true then rngI d c args else (d.e c (.Call (.Name x px) args [] p)).bind fun m => some fun C => iV (m C)) = some m := h
      by_cases hr : isRng c x = true
      · rw [if_pos hr] at h
        unfold isRng at hr
        rw [Bool.and_eq_true, Bool.and_eq_true] at hr
        obtain ⟨⟨hg, hf⟩, hx⟩ := hr
        have hx := eq_of_beq hx
        clear dflt
        subst hx
        unfold rngI at h
        split at h
        · obtain ⟨h1, h⟩ := chk_some h
          obtain ⟨ma, e1, h⟩ := bind_some h
          cases h
          exact ji_rng1 (F.gl hg) (F.free _ hf) (S.e F e1) (nst_one h1)
        · obtain ⟨h1, h⟩ := chk_some h
          rw [Bool.and_eq_true] at h1
          obtain ⟨ma, e1, h⟩ := bind_some h
          obtain ⟨mb, e2, h⟩ := bind_some h
          cases h
          exact ji_rng2 (F.gl hg) (F.free _ hf) (S.e F e1) (S.e F e2) (nst_two h1.1 h1.2) (nst_one h1.2)
        · cases h
      · rw [if_neg hr] at h
        exact dflt h
  | _ => exact dflt h
theorem step_g {e : Expr} {q : List Nat × (Orc → DenG)} (h : d.step.g c e = some q) : JG G X pn q.1 e (q.2 C) := by
  cases e with
  | Name x p =>
    obtain ⟨h1, h⟩ := chk_some h
    obtain ⟨i, e1, h⟩ := bind_some h
    cases h
    obtain ⟨t1, t2⟩ := F.tg h1
    exact jg_name F.nd (F.ix e1) t1 t2
  | Tuple ts k p =>
    obtain ⟨h1, h⟩ := chk_some h
    obtain ⟨q', e1, h⟩ := bind_some h
    cases h
    obtain ⟨q1, q2⟩ := S.gs F e1
    exact jg_tup F.K (F.calm (by simpa using h1)) q1 (nst_len q2) (nst_find q2)
  | Subscript o i p =>
    obtain ⟨h1, h⟩ := chk_some h
    obtain ⟨mo, e1, h⟩ := bind_some h
    obtain ⟨mi, e2, h⟩ := bind_some h
    cases h
    exact jg_sub (S.e F e1) (S.e F e2) (nslice_asg h1)
  | _ => cases h
theorem step_gs {es : List Expr} {q : List Nat × (Orc → DenGs)} (h : d.step.gs c es = some q) : JGs G X pn q.1 es (q.2 C) ∧ es.all nst = true := by
  cases es with
  | nil =>
    cases h
    exact ⟨jgs_nil, rfl⟩
  | cons e r =>
    obtain ⟨h1, h⟩ := chk_some h
    obtain ⟨q1, e1, h⟩ := bind_some h
    obtain ⟨q2, e2, h⟩ := bind_some h
    cases h
    obtain ⟨p1, p2⟩ := S.gs F e2
    exact ⟨jgs_cons (S.g F e1) p1 (by rw [nst_asg h1]; rfl), by rw [List.all_cons, h1, p2]; rfl⟩
end
end Mini

set_option Elab.async false
set_option linter.all false
set_option maxRecDepth 100000
set_option maxHeartbeats 4000000
/-! # Mini, part N: the reader is sound: statements -/
namespace Mini
open PySem PySem.Spec L2
theorem swp_none {ts : List Expr} {k : Nat} {p : Pos} {e : Expr} {env : PySem.Env} (h : ∀ vs k' p', e ≠ .Tuple vs k' p') : swappedStores [.Tuple ts k p] e env = pure none := by
  cases e <;> first | rfl | exact absurd rfl (h _ _ _)
theorem swp_name {y : Str} {p : Pos} {e : Expr} {env : PySem.Env} : swappedStores [.Name y p] e env = pure none := by
  cases e <;> rfl
theorem swp_sub {o i : Expr} {p : Pos} {e : Expr} {env : PySem.Env} : swappedStores [.Subscript o i p] e env = pure none := by
  cases e <;> rfl
theorem sole_sub {o i : Expr} {p : Pos} {e : Expr} {line : Nat} {env : PySem.Env} : swapsWithSole [.Subscript o i p] e line env = pure false := by
  cases e <;> rfl
def nmsOf (sc : Scope) (line : Nat) (ts : List Expr) : List Str := ts.filterMap fun
    | .Name id pos => if sc.names.lookup id == some .local && pos.line == line then some id else none
    | _ => none
theorem swp_par {c : Cn} {ts vs : List Expr} {k k' : Nat} {p p' : Pos} {env : PySem.Env} {r : Option (List Str)} (hs : env.scope = c.sc) (hk : c.sc.kind = .function) (h : parD c ts vs = some r) : swappedStores [.Tuple ts k p] (.Tuple vs k' p') env = pure r := by
  have hb : env.blockKind = .function := by
    unfold Env.blockKind
    rw [hs, hk]
    rfl
  unfold parD at h
  unfold swappedStores
  simp only [hb]
  unfold Env.kindOf
  rw [hs]
  dsimp only at h
  have e0 : (ScopeKind.function != ScopeKind.function) = false := rfl
  simp only [e0, Bool.or_false]
  split at h
  · rename_i q
    refine (if_pos q).trans ?_
    cases h
    rfl
  · rename_i q
    refine (if_neg q).trans ?_
    split at h
    · cases h
    · rename_i q
      refine (if_neg q).trans ?_
      split at h
      · rename_i q
        refine (if_pos q).trans ?_
        cases h
        rfl
      · rename_i q
        refine (if_neg q).trans ?_
        split at h
        · rename_i q
          refine (if_pos q).trans ?_
          cases h
          rfl
        · rename_i q
          refine (if_neg q).trans ?_
          split at h
          · cases h
          · rename_i q
            refine (if_neg q).trans ?_
            cases h
            rfl
/-- two names are swapped -/
theorem parD_two {c : Cn} {x y : Str} {px py : Pos} {vs : List Expr} {ns : List Str} (h : parD c [.Name x px, .Name y py] vs = some (some ns)) : ns = [x, y] := by
  unfold parD at h
  dsimp only at h
  split at h
  · cases h
  · split at h
    · cases h
    · split at h
      · cases h
      · rename_i q
        split at h
        · cases h
        · split at h
          · cases h
          · cases h
            simp only [Bool.or_eq_true, not_or, bne_iff_ne, ne_eq, Decidable.not_not] at q
            have q1 := q.1
            simp only [List.filterMap_cons, List.filterMap_nil] at q1 ⊢
            split at q1 <;> split at q1 <;> simp_all
section
variable {d : Dr} (S : Snd d) {G : Gt} {C : Orc} {k : Nat} {c : Cn} {X : Cx} {W : WX} {pn : List (Addr × Obj)} (F : Fit G C k c X W pn)
include S F
theorem js_asgS {tg e : Expr} {m : Orc → DenS} {pos : Pos} (hs : swapsWithSole [tg] e pos.line X.env = pure false) (hw : swappedStores [tg] e X.env = pure none) (hn : nst tg = true) (h : asgS d c tg e = some m) : JS G X pn W (.Assign [tg] e pos) (m C) := by
  obtain ⟨q, e1, h⟩ := bind_some h
  obtain ⟨me, e2, h⟩ := bind_some h
  cases h
  exact js_asg (S.e F e2) (S.g F e1) hs hw (by rw [nst_asg hn]; rfl)
theorem js_tupS {ts : List Expr} {kt : Nat} {p pos : Pos} {e : Expr} {m : Orc → DenS} (ht : c.top = true) (h : tupS d c ts kt p e = some m) : JS G X pn W (.Assign [.Tuple ts kt p] e pos) (m C) := by
  obtain ⟨hh, _, _, hk, _⟩ := F.top ht
  have gen : (∀ vs k' p', e ≠ .Tuple vs k' p') → chk (ncomp e) (asgS d c (.Tuple ts kt p) e) = some m → JS G X pn W (.Assign [.Tuple ts kt p] e pos) (m C) := fun hne h => by
    obtain ⟨h1, h⟩ := chk_some h
    exact js_asgS S F (ncomp_sole h1) (swp_none hne) rfl h
  cases e with
  | Tuple vs k' p' =>
    have h : (match parD c ts vs with
      | some (some _) => parS d c ts vs
      | some none => asgS d c (.Tuple ts kt p) (.Tuple vs k' p')
      | none => none) = some m := h
    cases e0 : parD c ts vs with
    | none => rw [e0] at h; cases h
    | some r =>
      rw [e0] at h
      cases r with
      | none => exact js_asgS S F rfl (swp_par F.sc hk e0) rfl h
      | some ns =>
        have h : parS d c ts vs = some m := h
        unfold parS at h
        split at h
        · rename_i x px y py
          have en := parD_two e0
          subst en
          obtain ⟨i, e1, h⟩ := bind_some h
          obtain ⟨j, e2, h⟩ := bind_some h
          obtain ⟨h1, h⟩ := chk_some h
          obtain ⟨da, e3, h⟩ := bind_some h
          cases h
          simp only [Bool.and_eq_true, bne_iff_ne, ne_eq, decide_eq_true_eq] at h1
          obtain ⟨⟨⟨h1, h2⟩, h3⟩, h4⟩ := h1
          match vs, h4 with
          | [a, b], _ => exact js_par (F.calm hh) F.nd (F.ix e1) (F.ix e2) h1 (F.loc h2) (F.loc h3) (S.a F e3).1 (swp_par F.sc hk e0)
        · cases h
  | _ => exact gen (fun _ _ _ z => by cases z) h
theorem js_nmS {y : Str} {py pos : Pos} {e : Expr} {m : Orc → DenS} (ht : c.top = true) (h : nmS d c y py e = some m) : JS G X pn W (.Assign [.Name y py] e pos) (m C) := by
  obtain ⟨hh, _, _, hk, _⟩ := F.top ht
  have gen : chk (ncomp e) (asgS d c (.Name y py) e) = some m → JS G X pn W (.Assign [.Name y py] e pos) (m C) := fun h => by
    obtain ⟨h1, h⟩ := chk_some h
    exact js_asgS S F (ncomp_sole h1) swp_name rfl h
  cases e with
  | ListComp elt gens scope lp =>
    clear gen
    obtain ⟨h1, h⟩ := chk_some h
    obtain ⟨i, e1, h⟩ := bind_some h
    obtain ⟨li, el, h⟩ := bind_some h
    cases h
    obtain ⟨tg, iter, ifs, mi, mg, tt, me, sl, rfl, hh', q1, q2, q3, q4, q5, q6, q7, q8⟩ := lcP_ok S F el
    have hp := F.pnil hh
    subst hp
    obtain ⟨t1, t2⟩ := F.tg h1
    show JS G X [] W _ (sAsg (gN i) (fun σ => bnd (li C σ) fun ys => alloc (.lst ys)))
    rw [q1]
    have sw : ∃ b : Bool, swapsWith (.ListComp elt [⟨tg, iter, ifs, 0⟩] scope lp) (some (.Name y py)) pos.line X.env = pure b ∧ (b = true → X.env.scope.names.lookup y = some .local) := ⟨_, rfl, fun z => by
      simp only [Bool.and_eq_true] at z
      exact eq_of_beq z.1.1.2⟩
    obtain ⟨b, sw, hb⟩ := sw
    cases b with
    | true => exact js_lc (F.calm hh) F.nd (F.ix e1) (hb rfl) sw q2 q3 q4 q5 q6 q7 q8
    | false => exact js_asg (je_lc (F.calm hh) F.nd q2 q3 q4 q5 q6 q7 q8) (jg_name F.nd (F.ix e1) t1 t2) sw swp_name rfl
  | _ => exact gen h
theorem js_stA {tgs : List Expr} {pos : Pos} {e : Expr} {m : Orc → DenS} (ht : c.top = true) (h : stA d c tgs e = some m) : JS G X pn W (.Assign tgs e pos) (m C) := by
  unfold stA at h
  split at h
  · exact js_tupS S F ht h
  · exact js_nmS S F ht h
  · exact js_asgS S F sole_sub swp_sub rfl h
  · cases h
omit S in
theorem js_stRaise {e : Expr} {m : Orc → DenS} {pos : Pos} (h : stRaise c e = some m) : JS G X pn W (.Raise (some e) none pos) (m C) := by
  unfold stRaise at h
  split at h
  · obtain ⟨h1, h⟩ := chk_some h
    rw [Bool.and_eq_true, Bool.and_eq_true] at h1
    obtain ⟨n, e1, h⟩ := bind_some h
    obtain ⟨h2, h⟩ := chk_some h
    cases h
    obtain ⟨p1, p2, p3, p4⟩ := F.plain _ h2
    rw [← F.K] at p1 p2 p3 p4
    exact js_raise (F.calm (by simpa using h1.1.1)) F.tk PySem.F.excBase_ValueError p1 (F.excs _ _ e1) p2 (raises_own p3 p4) (F.gl h1.1.2) (okN_ok h1.2).1
  · cases h
theorem js_stTry {b : List Stmt} {hs : List ExceptHandler} {pos : Pos} {m : Orc → DenS} (ht : c.top = true) (h : stTry d c b hs = some m) : JS G X pn W (.Try b hs [] [] pos) (m C) := by
  obtain ⟨hh, q1, q2, hk, q3⟩ := F.top ht
  have hp := F.pnil hh
  subst hp
  unfold stTry at h
  split at h
  · obtain ⟨h1, h⟩ := chk_some h
    rw [Bool.and_eq_true, Bool.and_eq_true] at h1
    obtain ⟨cn, e1, h⟩ := bind_some h
    obtain ⟨i, e2, h⟩ := bind_some h
    obtain ⟨mb, e3, h⟩ := bind_some h
    obtain ⟨mh, e4, h⟩ := bind_some h
    cases h
    obtain ⟨n1, n2, n3⟩ := okN_ok h1.1.2
    exact js_try F.K q1 q2 F.nd (F.ix e2) (F.loc h1.2) ⟨F.gl h1.1.1, n1, .inl (F.excs _ _ e1)⟩ F.tk (fun e b he => F.exm e cn b he) (fun W' pn' xe tk po => S.ss (F.try_ ht tk po) e3) (fun a oe pn' => S.ss (F.suite a oe pn') e4)
  · cases h
theorem step_s {s : Stmt} {m : Orc → DenS} (h : d.step.s c s = some m) : JS G X pn W s (m C) := by
  cases s with
  | Return e p =>
    cases e with
    | none => cases h; exact js_retN
    | some e =>
      obtain ⟨me, e1, h⟩ := bind_some h
      cases h
      exact js_ret (S.e F e1)
  | Pass p => cases h; exact js_pass
  | Break p => cases h; exact js_brk
  | Continue p => cases h; exact js_cnt
  | Expr e p =>
    obtain ⟨h1, h⟩ := chk_some h
    obtain ⟨me, e1, h⟩ := bind_some h
    cases h
    exact js_exp (S.e F e1) (ncomp_swaps h1)
  | If t b o p =>
    obtain ⟨mt, e1, h⟩ := bind_some h
    obtain ⟨mb, e2, h⟩ := bind_some h
    obtain ⟨mo, e3, h⟩ := bind_some h
    cases h
    exact js_if (S.t F e1) (S.ss F e2) (S.ss F e3)
  | Assign tgs e p =>
    obtain ⟨h1, h⟩ := chk_some h
    exact js_stA S F h1 h
  | For tg iter b o p =>
    obtain ⟨h1, h⟩ := chk_some h
    rw [Bool.and_eq_true] at h1
    obtain ⟨hh, _, _, _, po⟩ := F.top h1.1
    cases o with
    | cons x r => cases h
    | nil =>
      obtain ⟨mi, e1, h⟩ := bind_some h
      obtain ⟨q, e2, h⟩ := bind_some h
      obtain ⟨mb, e3, h⟩ := bind_some h
      cases h
      exact js_for po (F.calm hh) (S.i F e1 tg) (S.g F e2) (S.ss F e3) (nset_fold h1.2)
  | While t b o p =>
    obtain ⟨h1, h⟩ := chk_some h
    obtain ⟨hh, _, _, _, po⟩ := F.top h1
    cases o with
    | cons x r => cases h
    | nil =>
      obtain ⟨mt, e1, h⟩ := bind_some h
      obtain ⟨mb, e3, h⟩ := bind_some h
      cases h
      exact js_while po (S.t F e1) (S.ss F e3)
  | Raise e cause p =>
    cases e with
    | none => cases h
    | some e =>
      cases cause with
      | some x => cases h
      | none => exact js_stRaise F h
  | Try b hs o f p =>
    cases o with
    | cons x r => cases h
    | nil =>
      cases f with
      | cons x r => cases h
      | nil =>
        obtain ⟨h1, h⟩ := chk_some h
        exact js_stTry S F h1 h
  | _ => cases h
theorem step_ss {ss : List Stmt} {m : Orc → DenS} (h : d.step.ss c ss = some m) : JSs G X pn W ss (m C) := by
  cases ss with
  | nil => cases h; exact js_nil
  | cons s r =>
    obtain ⟨m1, e1, h⟩ := bind_some h
    obtain ⟨m2, e2, h⟩ := bind_some h
    cases h
    exact js_cons (S.s F e1) (S.ss F e2)
end
theorem snd_step {d : Dr} (S : Snd d) : Snd d.step where
  e := by intro _ _ _ _ _ _ _ F _ _ h; exact step_e S F h
  t := by intro _ _ _ _ _ _ _ F _ _ h; exact step_t S F h
  w := by intro _ _ _ _ _ _ _ F _ _ _ h pos; exact step_w S F h pos
  v := by intro _ _ _ _ _ _ _ F _ _ _ h pos; exact step_v S F h pos
  a := by intro _ _ _ _ _ _ _ F _ _ h; exact step_a S F h
  i := by intro _ _ _ _ _ _ _ F _ _ h tg; exact step_i S F h tg
  g := by intro _ _ _ _ _ _ _ F _ _ h; exact step_g S F h
  gs := by intro _ _ _ _ _ _ _ F _ _ h; exact step_gs S F h
  s := by intro _ _ _ _ _ _ _ F _ _ h; exact step_s S F h
  ss := by intro _ _ _ _ _ _ _ F _ _ h; exact step_ss S F h
theorem snd_n : ∀ n, Snd (drN n)
  | 0 => snd_none
  | n + 1 => snd_step (snd_n n)
end Mini

set_option Elab.async false
set_option linter.all false
set_option maxRecDepth 100000
set_option maxHeartbeats 4000000
/-! # Mini, part O: the defs of a module; the head's facts; a law's end -/
namespace Mini
open PySem PySem.Spec L2

/-! ### the defs -/
/-- a def of the text with its slots -/
structure DefM where
  d : He.DefD
  N : List Str
  ps : List Str
/-- where a def's body is read -/
def DefM.cn (T : Tab) (x : DefM) : Cn := ⟨T, x.N, x.d.scope, (x.d.scope.names.filter fun y => y.2 == .cell).map (·.1), false, true⟩
/-- what is shown of a def once -/
structure DefS (T : Tab) (n : Nat) (x : DefM) (f : Fn) : Prop where
  S : FnScope x.N x.ps x.d.scope
  B : ∀ (kV doc pm : Value) (an : Option Addr) (cdv ct : Value) (us : List Value), us.length = x.ps.length → bindArgs (PySem.W.fnOf x.d.name x.d.qual x.d.params x.d.body x.d.scope .none kV doc pm an cdv ct) ⟨us, []⟩ = pure (x.ps.zip us)
  np : f.np = x.ps.length
  ns : f.ns = x.N.length
  D : (drN n).ss (x.cn T) x.d.body = some f.den
def AllD (T : Tab) (n : Nat) : List DefM → List Fn → Prop
  | [], [] => True
  | x :: xs, f :: fs => DefS T n x f ∧ AllD T n xs fs
  | _, _ => False
theorem AllD.at_ {T : Tab} {n : Nat} : ∀ {xs : List DefM} {fs : List Fn} {i : Nat} {f : Fn}, AllD T n xs fs → fs[i]? = some f → ∃ x, xs[i]? = some x ∧ DefS T n x f
  | [], [], _, _, _, e => by simp at e
  | [], _ :: _, _, _, h, _ => h.elim
  | _ :: _, [], _, _, h, _ => h.elim
  | x :: xs, f :: fs, 0, g, h, e => by
    simp at e
    subst e
    exact ⟨x, rfl, h.1⟩
  | x :: xs, f :: fs, i + 1, g, h, e => AllD.at_ (i := i) h.2 (by simpa using e)
theorem AllD.atX {T : Tab} {n : Nat} : ∀ {xs : List DefM} {fs : List Fn} {i : Nat} {x : DefM}, AllD T n xs fs → xs[i]? = some x → ∃ f, fs[i]? = some f ∧ DefS T n x f
  | [], [], _, _, _, e => by simp at e
  | [], _ :: _, _, _, h, _ => h.elim
  | _ :: _, [], _, _, h, _ => h.elim
  | x :: xs, f :: fs, 0, g, h, e => by
    simp at e
    subst e
    exact ⟨f, rfl, h.1⟩
  | x :: xs, f :: fs, i + 1, g, h, e => AllD.atX (i := i) h.2 (by simpa using e)
/-- what the heap holds of the module's names -/
structure Wd (G : Gt) (T : Tab) (mg : Str → Option Value) (xs : List DefM) : Prop where
  def_ : ∀ (i : Nat) (x : DefM), xs[i]? = some x → ∃ fd, FunD G.K x.d.name x.d.qual x.d.params x.d.body x.d.scope [] [] (He.fAd G.K x.d.at_) fd
  fns : ∀ n i, T.fns.lookup n = some i → ∃ x : DefM, xs[i]? = some x ∧ mg n = some (.ref (He.fAd G.K x.d.at_))
  cons : ∀ x d, T.cons.lookup x = some d → ∃ v u, mg x = some u ∧ RelV v u ∧ ∀ H ι, Rp G H ι d v
  excs : ∀ x n, T.excs.lookup x = some n → mg x = some (.ref (G.excA n))
  plain : ∀ n, T.plain n = true → PySem.W.excIn G.K (G.excA n) He.veBase "ValueError.__new__" = true ∧ PySem.W.keepIn G.K (.ref (G.excA n)) = true ∧ PySem.W.subIn G.K (.ref (G.excA n)) (.type "BaseException") = some true ∧ PySem.W.typeIn G.K (.ref (G.excA n)) = some (.type "type")
  fld : ∀ x n, T.fld x n = true → XfC G.K (G.excA n) ∧ PySem.W.findIn G.K (.ref (G.excA n)) x = some none ∧ G.excF n = [x]
  free : ∀ x, T.free.contains x = true → mg x = none
  sup : SupOk G T.sup
  exm : ∀ e n b, T.sup e n = some b → PySem.W.exmOne G.K (.ref (G.excA e)) (.ref (G.excA n)) = some b
theorem FunD.inj {K : PySem.W.Frag} {x qual : Str} {params : Arguments} {body : List Stmt} {scope : Scope} {dvs : List V} {kws : List (Str × V)} {f : Addr} {fd fd' : FuncData} (h : FunD K x qual params body scope dvs kws f fd) (h' : FunD K x qual params body scope dvs kws f fd') : fd = fd' := by
  obtain ⟨_, _, _, _, _, _, _, _, _, _, _, e, _⟩ := h.ex
  obtain ⟨_, _, _, _, _, _, _, _, _, _, _, e', _⟩ := h'.ex
  rw [e] at e'
  have := Option.some.inj e'
  injection this with _ _ h3 _
  injection h3
section
variable {P : Program} {w : World} {mg : Str → Option Value} {base : Heap} {G : Gt} {T : Tab} {n : Nat} {xs : List DefM} {fs : List Fn}
theorem fn_sp {i : Nat} {f : Fn} {C : Orc} {k : Nat} (hf : fs[i]? = some f) {vs : List V} {H : Hp} {Q : VK} {E : XK} (h : spI G (callN fs (k + 1)) i vs H Q E) : vs.length = f.np ∧ tS G [] (fun cls od _ H => E cls od H) (f.den (callN fs k)) { nx := fun _ H' => Q .non H', rt := Q } ((vs.map some) ++ List.replicate (f.ns - vs.length) none) H := by
  obtain ⟨ds, μ, ι, sd, rp, o⟩ := h
  have hl := rp.length
  have o : Out G (fun cls od _ H => E cls od H) [] ι H (RV G Q) (runFn f (callN fs k) ds μ) := by
    have e : callN fs (k + 1) i ds = runFn f (callN fs k) ds := by
      show (match fs[i]? with
        | some f => runFn f (callN fs k) ds
        | none => stk) = _
      rw [hf]
    rw [e] at o
    exact o
  unfold runFn at o
  by_cases hz : ds.length = f.np
  · rw [if_pos hz] at o
    refine ⟨by rw [hl, hz], ?_⟩
    have es : (vs.map some ++ List.replicate (f.ns - vs.length) none : St) = L2.start ((List.replicate f.ns default : List Str)) vs := by
      unfold L2.start
      rw [List.length_replicate]
    rw [es]
    refine ⟨Mini.start f.ns ds, μ, ι, Ed.start rp (by simp), sd, ?_⟩
    cases e : f.den (callN fs k) (Mini.start f.ns ds) μ with
    | err c fs' μ' => rw [e] at o; exact o.elim
    | stuck => rw [e] at o; exact o.elim
    | ok fl μ' =>
      rw [e] at o
      intro ι' H' x' s'
      cases fl with
      | nx σ1 =>
        intro σ' ed'
        unfold tidy at o
        dsimp only at o
        split at o
        · rename_i hc
          rw [← sd.len] at hc o
          exact o _ _ x'.cut (s'.cut hc.2) _ rfl
        · exact o _ _ x' s' _ rfl
      | rt d =>
        intro v r
        unfold tidy at o
        dsimp only at o
        split at o
        · rename_i hc
          rw [← sd.len] at hc o
          exact o _ _ x'.cut (s'.cut hc.2) _ (r.cut hc.1)
        · exact o _ _ x' s' _ r
      | bk σ1 => exact o.elim
      | ct σ1 => exact o.elim
      | ex c fs' σ1 =>
        intro σ' od ed' xd
        unfold tidyE at o
        dsimp only at o
        split at o
        · rename_i hc
          rw [← sd.len] at hc o
          exact o od _ _ x'.cut (s'.cut hc.2) xd
        · exact o od _ _ x' s' xd
  · rw [if_neg hz] at o
    exact o.elim
theorem fn_all (A : AllD T n xs fs) (Y : Wd G T mg xs) : ∀ (k i : Nat) (x : DefM) (fd : FuncData), xs[i]? = some x → FunD G.K x.d.name x.d.qual x.d.params x.d.body x.d.scope [] [] (He.fAd G.K x.d.at_) fd → FnOk P w G.K mg base (L2.CX P w) k (He.fAd G.K x.d.at_) fd x.ps (spI G (callN fs k) i)
  | 0, i, x, fd, e, F => by
    have no : ∀ vs H Q E, ¬ spI G (callN fs 0) i vs H Q E := fun vs H Q E ⟨ds, μ, ι, sd, rp, o⟩ => o.elim
    exact ⟨fun vs H Q E h => (no _ _ _ _ h).elim, fun A outer s H args us vs Q E hr e0 hb hv h => (no _ _ _ _ h).elim⟩
  | k + 1, i, x, fd, e, F => by
    obtain ⟨f, ef, DS⟩ := A.atX e
    refine F.ok DS.S (fun vs H Q E h => by rw [(fn_sp (C := callN fs k) ef h).1, DS.np]) fun cdv Ar outer s H vs Q E hr h => ?_
    obtain ⟨h1, h2⟩ := fn_sp (C := callN fs k) ef h
    refine ⟨_, (snd_n n).ss (G := G) (k := k) (C := callN fs k) (c := x.cn T) (W := fun cls od _ H => E cls od H) (pn := []) ?_ DS.D, ?_⟩
    · exact {
        K := rfl
        N := rfl
        nd := DS.S.nd
        sc := rfl
        un := hr.units
        tk := takes_of rfl rfl rfl rfl
        calm := fun _ => rfl
        pnil := fun _ => rfl
        pin := fun q hq => by cases hq
        room := fun _ => hr
        cel := fun _ _ => rfl
        top := fun _ => ⟨rfl, rfl, rfl, DS.S.kind, passes_of rfl⟩
        fns := fun nm j ej => by
          obtain ⟨y, ey, hm⟩ := Y.fns nm j ej
          obtain ⟨fd', F'⟩ := Y.def_ j y ey
          obtain ⟨f', ef', DS'⟩ := A.atX ey
          exact ⟨_, fd', y.ps, hm, F'.kp, F'.bindsN DS'.B, fn_all A Y k j y fd' ey F'⟩
        cons := Y.cons
        excs := Y.excs
        plain := Y.plain
        fld := Y.fld
        free := Y.free
        sup := Y.sup
        exm := Y.exm }
    · have : (L2.start x.N vs) = ((vs.map some) ++ List.replicate (f.ns - vs.length) none : St) := by
        unfold L2.start
        rw [DS.ns]
      rw [this]
      exact h2
end
/-! ### the head's facts -/
mutual
/-- a module's constant as the heap has it -/
def conB (K : PySem.W.Frag) : D → Value → Bool
  | .non, u => (match u with
    | .none => true
    | _ => false)
  | .bl b, u => He.relB (.bl b) u
  | .int i, u => He.relB (.int i) u
  | .str x, u => He.relB (.str x) u
  | .tup xs, u => (match u with
    | .ref a => (match K.lookup a with
      | some ⟨.type c, _, .seq its _, _⟩ => decide (c = "tuple") && (decide (its.size ≤ sizeLine) && conBs K xs its.toList)
      | _ => false)
    | _ => false)
  | .rol xs, u => (match u with
    | .ref a => (match K.lookup a with
      | some ⟨.type c, none, .seq its _, _⟩ => decide (c = "list") && (decide (its.size ≤ sizeLine) && conBs K xs its.toList)
      | _ => false)
    | _ => false)
  | .loc _, _ => false
  | .exn _ _, _ => false
def conBs (K : PySem.W.Frag) : List D → List Value → Bool
  | [], [] => true
  | d :: ds, u :: us => conB K d u && conBs K ds us
  | _, _ => false
end
mutual
theorem conB_ok {G : Gt} : ∀ {d : D} {u : Value}, conB G.K d u = true → ∃ v, RelV v u ∧ ∀ H ι, Rp G H ι d v
  | .non, u, h => by
    cases u <;> first | exact ⟨.non, rfl, fun _ _ => rfl⟩ | cases h
  | .bl b, u, h => ⟨.bl b, He.relB_ok h, fun _ _ => rfl⟩
  | .int i, u, h => ⟨.int i, He.relB_ok h, fun _ _ => rfl⟩
  | .str x, u, h => ⟨.str x, He.relB_ok h, fun _ _ => rfl⟩
  | .tup xs, u, h => by
    cases u with
    | ref a =>
      unfold conB at h
      dsimp only at h
      cases q : G.K.lookup a with
      | none => rw [q] at h; cases h
      | some o =>
        obtain ⟨oc, od, dt, osl⟩ := o
        rw [q] at h
        cases oc <;> first | (cases dt <;> cases h; done) | skip
        rename_i c
        cases dt <;> first | (cases h; done) | skip
        rename_i its n
        simp only [Bool.and_eq_true, decide_eq_true_eq] at h
        obtain ⟨h1, h2, h3⟩ := h
        obtain ⟨vs, r1, r2⟩ := conBs_ok h3
        exact ⟨.ref a, rfl, fun H ι => ⟨a, vs, rfl, .inr ⟨_, its, n, q, congrArg Value.type h1, rfl, h2, r1⟩, r2 H ι⟩⟩
    | _ => cases h
  | .rol xs, u, h => by
    cases u with
    | ref a =>
      unfold conB at h
      dsimp only at h
      cases q : G.K.lookup a with
      | none => rw [q] at h; cases h
      | some o =>
        obtain ⟨oc, od, dt, osl⟩ := o
        rw [q] at h
        cases oc <;> first | (cases od <;> cases dt <;> cases h; done) | skip
        rename_i c
        cases od <;> first | (cases dt <;> cases h; done) | skip
        cases dt <;> first | (cases h; done) | skip
        rename_i its n
        simp only [Bool.and_eq_true, decide_eq_true_eq] at h
        obtain ⟨h1, h2, h3⟩ := h
        obtain ⟨vs, r1, r2⟩ := conBs_ok h3
        exact ⟨.ref a, rfl, fun H ι => ⟨a, vs, rfl, .inr ⟨_, its, n, q, congrArg Value.type h1, rfl, rfl, h2, r1⟩, r2 H ι⟩⟩
    | _ => cases h
  | .loc _, _, h => by cases h
  | .exn _ _, _, h => by cases h
theorem conBs_ok {G : Gt} : ∀ {ds : List D} {us : List Value}, conBs G.K ds us = true → ∃ vs, Vals vs us ∧ ∀ H ι, RpL G H ι ds vs
  | [], [], _ => ⟨[], .nil, fun _ _ => rfl⟩
  | [], _ :: _, h => by cases h
  | _ :: _, [], h => by cases h
  | d :: ds, u :: us, h => by
    unfold conBs at h
    rw [Bool.and_eq_true] at h
    obtain ⟨v, r1, r2⟩ := conB_ok h.1
    obtain ⟨vs, q1, q2⟩ := conBs_ok h.2
    exact ⟨v :: vs, .cons r1 q1, fun H ι => ⟨v, vs, rfl, r2 H ι, q2 H ι⟩⟩
end
/-- a law's names for the head: defs, constants, exception classes (name, its field), the built-ins' names, the classes' table -/
structure Hd where
  defs : List DefM
  cons : List (Str × D)
  excs : List (Str × List Str × Bool)
  free : List Str
  sup : List (List Bool)
def supOf (t : List (List Bool)) (c e : Nat) : Option Bool := (t[c]?).bind fun r => r[e]?
def Hd.name (h : Hd) (n : Nat) : Str := match h.excs[n]? with
  | some x => x.1
  | none => "SplitError"
def exFs (t : List (Str × List Str × Bool)) (n : Nat) : List Str := match t[n]? with
  | some x => x.2.1
  | none => []
def exPl (t : List (Str × List Str × Bool)) (n : Nat) : Bool := match t[n]? with
  | some x => x.2.2
  | none => false
def exFl (t : List (Str × List Str × Bool)) (f : Str) (n : Nat) : Bool := match t[n]? with
  | some x => x.2.1 == [f]
  | none => false
def Hd.gt (h : Hd) (K : PySem.W.Frag) : Gt := ⟨K, fun n => He.ga K (h.name n), exFs h.excs⟩
def ixE : List (Str × List Str × Bool) → Nat → List (Str × Nat)
  | [], _ => []
  | y :: r, n => (y.1, n) :: ixE r (n + 1)
def ixDf (xs : List DefM) (n : Nat) : List (Str × Nat) := match xs with
  | [] => []
  | x :: r => (x.d.at_.1, n) :: ixDf r (n + 1)
def Hd.tab (h : Hd) : Tab := ⟨ixDf h.defs 0, h.cons, ixE h.excs 0, exPl h.excs, exFl h.excs, h.free, supOf h.sup⟩
def conA (K : PySem.W.Frag) (q : Str × D) : Bool := match PySem.W.nsIn K mainGlobals q.1 with
  | some (some u) => conB K q.2 u
  | _ => false
def eqOB (a b : Option Bool) : Bool := decide (a = b)
/-- the exception class n -/
def excB (h : Hd) (K : PySem.W.Frag) (n : Nat) : Bool := match h.excs[n]? with
  | some x => He.Fa.ok K (.glo x.1) && (excG K (He.ga K x.1) && (eqOB (PySem.W.kitOne K (.ref (He.ga K x.1)) (.type "ValueError")) (some true) && ((!x.2.2 || He.Fa.ok K (.exc x.1)) &&
      ((x.2.1.all fun f => xfB K (He.ga K x.1) && decide (PySem.W.findIn K (.ref (He.ga K x.1)) f = some none)) &&
      ((List.range h.excs.length).all fun m => eqOB (PySem.W.kitOne K (.ref (He.ga K x.1)) (.ref (He.ga K (h.name m)))) (supOf h.sup n m) && eqOB (PySem.W.exmOne K (.ref (He.ga K x.1)) (.ref (He.ga K (h.name m)))) (supOf h.sup n m))))))
  | none => false
def Hd.more (h : Hd) (K : PySem.W.Frag) : Bool := (h.cons.all (conA K)) && ((List.range h.excs.length).all (excB h K))
def Hd.fa (h : Hd) : List He.Fa := h.defs.map (fun x => .glo x.d.at_.1) ++ h.free.map .free
def Hd.fn (h : Hd) : List He.DefD := h.defs.map (·.d)
/-- the hook -/
abbrev HdA : Type := Bool × He.AlD
def Hd.obsK (h : Hd) (K : PySem.W.Frag) : HdA := (h.more K, He.obsD h.fa h.fn K)
def Hd.says (h : Hd) (K : PySem.W.Frag) : Prop := h.obsK K = (true, He.valD h.fn)
def Hd.obsG (h : Hd) (n : Nat) (g : Addr → Option Obj) : HdA := h.obsK (He.frG g (He.asD g n))
def Hd.hook (h : Hd) (n : Nat) : PySem.W.Hook where
  α := HdA
  obs := fun s => h.obsG n s.heap.get?
  val := fun _ => (true, He.valD h.fn)
  says := fun _ hp => ∃ K : PySem.W.Frag, K.In hp ∧ h.says K
  of := fun _ _ e => ⟨_, He.frG_in, e⟩
  keeps := fun _ _ _ ⟨K, hK, c⟩ k => ⟨K, PySem.W.Frag.In.keeps hK k, c⟩
theorem obsG_eq {h : Hd} {n : Nat} {g : Addr → Option Obj} {s : Shared} (e : ∀ a, g a = s.heap.get? a) : h.obsG n g = (h.hook n).obs s := by
  have e : g = s.heap.get? := funext e
  rw [e] <;> rfl
theorem ixDf_at {x : Str} : ∀ {xs : List DefM} {n i : Nat}, (ixDf xs n).lookup x = some i → n ≤ i ∧ ∃ y : DefM, xs[i - n]? = some y ∧ y.d.at_.1 = x
  | [], _, _, h => by cases h
  | y :: r, n, i, h => by
    unfold ixDf at h
    rw [List.lookup_cons] at h
    split at h
    · rename_i e
      cases h
      exact ⟨Nat.le_refl _, y, by simp, (eq_of_beq e).symm⟩
    · obtain ⟨h1, z, h2, h3⟩ := ixDf_at h
      refine ⟨by omega, z, ?_, h3⟩
      rw [show i - n = (i - (n + 1)) + 1 by omega, List.getElem?_cons_succ]
      exact h2
theorem ixE_at {x : Str} : ∀ {xs : List (Str × List Str × Bool)} {n i : Nat}, (ixE xs n).lookup x = some i → n ≤ i ∧ ∃ y : Str × List Str × Bool, xs[i - n]? = some y ∧ y.1 = x
  | [], _, _, h => by cases h
  | y :: r, n, i, h => by
    unfold ixE at h
    rw [List.lookup_cons] at h
    split at h
    · rename_i e
      cases h
      exact ⟨Nat.le_refl _, y, by simp, (eq_of_beq e).symm⟩
    · obtain ⟨h1, z, h2, h3⟩ := ixE_at h
      refine ⟨by omega, z, ?_, h3⟩
      rw [show i - n = (i - (n + 1)) + 1 by omega, List.getElem?_cons_succ]
      exact h2
theorem lookup_mem {α : Type} {x : Str} {d : α} : ∀ {l : List (Str × α)}, l.lookup x = some d → (x, d) ∈ l
  | [], h => by cases h
  | y :: r, h => by
    rw [List.lookup_cons] at h
    split at h
    · rename_i e
      cases h
      rw [eq_of_beq e]
      exact List.mem_cons_self
    · exact List.mem_cons_of_mem _ (lookup_mem h)
/-- all defs stand by a global's name, none has defaults -/
def Hd.flat (h : Hd) : Bool := h.defs.all fun x => x.d.at_.2.isNone && (x.d.dfl.isEmpty && x.d.kwd.isEmpty)
section
variable {h : Hd} {K : PySem.W.Frag}
theorem says_more (c : h.says K) : h.more K = true := congrArg (fun z : HdA => z.1) c
theorem says_D (c : h.says K) : He.SaysD h.fa h.fn K := congrArg (fun z : HdA => z.2) c
theorem says_fact (c : h.says K) {f : He.Fa} (m : f ∈ h.fa) : f.ok K = true := by
  have c1 := (He.ba (show ((h.fa.all fun f => f.ok K) && h.fn.all fun d => d.ok K) = true from congrArg (fun z : He.AlD => z.1) (says_D c))).1
  exact List.all_eq_true.mp c1 f m
theorem says_exc (c : h.says K) {n : Nat} (hn : n < h.excs.length) : excB h K n = true := by
  have := says_more c
  unfold Hd.more at this
  rw [Bool.and_eq_true] at this
  exact List.all_eq_true.mp this.2 n (List.mem_range.mpr hn)
theorem supOf_lt {t : List (List Bool)} {c e : Nat} {b : Bool} (q : supOf t c e = some b) : c < t.length ∧ ∀ k, (∀ r ∈ t, r.length = k) → e < k := by
  unfold supOf at q
  obtain ⟨r, h1, h2⟩ := Option.bind_eq_some_iff.mp q
  refine ⟨(List.getElem?_eq_some_iff.mp h1).1, fun k hk => ?_⟩
  rw [← hk r (List.mem_of_getElem? h1)]
  exact (List.getElem?_eq_some_iff.mp h2).1
/-- the table is square -/
def Hd.square (h : Hd) : Bool := h.sup.length == h.excs.length && h.sup.all fun r => r.length == h.excs.length
theorem sq_lt (s : h.square = true) {c e : Nat} {b : Bool} (q : supOf h.sup c e = some b) : c < h.excs.length ∧ e < h.excs.length := by
  unfold Hd.square at s
  rw [Bool.and_eq_true, beq_iff_eq, List.all_eq_true] at s
  obtain ⟨h1, h2⟩ := supOf_lt q
  exact ⟨by rw [← s.1]; exact h1, h2 _ fun r hr => by simpa using s.2 r hr⟩
structure ExcF (h : Hd) (K : PySem.W.Frag) (n : Nat) (x : Str × List Str × Bool) : Prop where
  glo : (He.Fa.glo x.1).ok K = true
  g : excG K (He.ga K x.1) = true
  ve : PySem.W.kitOne K (.ref (He.ga K x.1)) (.type "ValueError") = some true
  pl : x.2.2 = true → (He.Fa.exc x.1).ok K = true
  fl : ∀ f ∈ x.2.1, xfB K (He.ga K x.1) = true ∧ PySem.W.findIn K (.ref (He.ga K x.1)) f = some none
  kit : ∀ m, m < h.excs.length → PySem.W.kitOne K (.ref (He.ga K x.1)) (.ref (He.ga K (h.name m))) = supOf h.sup n m
  exm : ∀ m, m < h.excs.length → PySem.W.exmOne K (.ref (He.ga K x.1)) (.ref (He.ga K (h.name m))) = supOf h.sup n m
theorem excF_of (c : h.says K) {n : Nat} (hn : n < h.excs.length) : ∃ x, h.excs[n]? = some x ∧ h.name n = x.1 ∧ ExcF h K n x := by
  have q := says_exc c hn
  unfold excB at q
  have e : h.excs[n]? = some h.excs[n] := List.getElem?_eq_getElem hn
  rw [e] at q
  refine ⟨_, e, by unfold Hd.name; rw [e], ?_⟩
  simp only [Bool.and_eq_true, Bool.or_eq_true, Bool.not_eq_true', List.all_eq_true, eqOB, decide_eq_true_eq, List.mem_range] at q
  obtain ⟨q1, q2, q3, q4, q5, q6⟩ := q
  exact ⟨q1, q2, q3, fun z => q4.resolve_left (fun y => Bool.noConfusion (z.symm.trans y)), fun f hf => q5 f hf, fun m hm => (q6 m hm).1, fun m hm => (q6 m hm).2⟩
theorem excA_name (n : Nat) : (h.gt K).excA n = He.ga K (h.name n) := rfl
theorem wd_of {hp : Heap} {mg : Str → Option Value} (fl : h.flat = true) (sq : h.square = true) (X : K.In hp) (N : hp.Ns mainGlobals mg) (c : h.says K) : Wd (h.gt K) h.tab mg h.defs where
  def_ := fun i x e => by
    have e2 : h.fn[i]? = some x.d := by
      unfold Hd.fn
      rw [List.getElem?_map, e]
      rfl
    obtain ⟨fd, F⟩ := (says_D c).def_ i e2
    have z := List.all_eq_true.mp fl x (List.mem_of_getElem? e)
    simp only [Bool.and_eq_true, List.isEmpty_iff] at z
    refine ⟨fd, ?_⟩
    have d1 : x.d.dvs K = [] := by unfold He.DefD.dvs; rw [z.2.1]; rfl
    have d2 : x.d.kws K = [] := by unfold He.DefD.kws; rw [z.2.2]; rfl
    rw [d1, d2] at F
    exact F
  fns := fun nm i e => by
    obtain ⟨_, y, e1, e2⟩ := ixDf_at (show (ixDf h.defs 0).lookup nm = some i from e)
    have z := List.all_eq_true.mp fl y (List.mem_of_getElem? e1)
    simp only [Bool.and_eq_true, Option.isNone_iff_eq_none] at z
    refine ⟨y, by simpa using e1, ?_⟩
    have g := He.glo_ok X N (x := y.d.at_.1) (says_fact c (List.mem_append_left _ (List.mem_map.mpr ⟨y, List.mem_of_getElem? e1, rfl⟩)))
    rw [e2] at g
    have : He.fAd K y.d.at_ = He.ga K nm := by
      unfold He.fAd
      rw [z.1, e2]
    show mg nm = some (.ref (He.fAd K y.d.at_))
    rw [this]
    exact g
  cons := fun x d e => by
    have m := lookup_mem (show h.cons.lookup x = some d from e)
    have q := says_more c
    unfold Hd.more at q
    rw [Bool.and_eq_true] at q
    have q := List.all_eq_true.mp q.1 _ m
    unfold conA at q
    split at q
    · rename_i u hu
      obtain ⟨v, r1, r2⟩ := conB_ok (G := h.gt K) q
      exact ⟨v, u, PySem.W.mg_of X N hu, r1, r2⟩
    · cases q
  excs := fun x n e => by
    obtain ⟨_, y, e1, e2⟩ := ixE_at (show (ixE h.excs 0).lookup x = some n from e)
    rw [Nat.sub_zero] at e1
    obtain ⟨hn, _⟩ := List.getElem?_eq_some_iff.mp e1
    obtain ⟨z, ez, en, F⟩ := excF_of c hn
    rw [e1] at ez
    cases ez
    have g := He.glo_ok X N F.glo
    show mg x = some (.ref (He.ga K (h.name n)))
    rw [en, ← e2]
    exact g
  plain := fun n e => by
    have e : exPl h.excs n = true := e
    unfold exPl at e
    cases q : h.excs[n]? with
    | none => rw [q] at e; cases e
    | some x =>
      rw [q] at e
      obtain ⟨hn, _⟩ := List.getElem?_eq_some_iff.mp q
      obtain ⟨z, ez, en, F⟩ := excF_of c hn
      rw [q] at ez
      cases ez
      have := He.exc_ok (F.pl e)
      rw [← en] at this
      exact this
  fld := fun f n e => by
    have e : exFl h.excs f n = true := e
    unfold exFl at e
    cases q : h.excs[n]? with
    | none => rw [q] at e; cases e
    | some x =>
      rw [q] at e
      have e := eq_of_beq e
      obtain ⟨hn, _⟩ := List.getElem?_eq_some_iff.mp q
      obtain ⟨z, ez, en, F⟩ := excF_of c hn
      rw [q] at ez
      cases ez
      obtain ⟨f1, f2⟩ := F.fl f (by rw [e]; exact List.mem_cons_self)
      rw [← en] at f1 f2
      refine ⟨xfB_ok f1, f2, ?_⟩
      show exFs h.excs n = [f]
      unfold exFs
      rw [q]
      exact e
  free := fun x e => by
    have m : x ∈ h.free := List.contains_iff_mem.mp e
    exact He.free_ok X N (says_fact c (List.mem_append_right _ (List.mem_map.mpr ⟨x, m, rfl⟩)))
  sup := fun n t b e => by
    have key : ∀ m b', supOf h.sup n m = some b' → ∃ x, h.name n = x.1 ∧ ExcF h K n x := fun m b' z => by
      obtain ⟨x, _, en, F⟩ := excF_of c (sq_lt sq z).1
      exact ⟨x, en, F⟩
    cases t with
    | exc m =>
      have e : supOf h.sup n m = some b := e
      obtain ⟨x, en, F⟩ := key m b e
      refine ⟨by rw [excA_name, en]; exact excG_ok F.g, ?_⟩
      have := F.kit m (sq_lt sq e).2
      rw [← en, e] at this
      exact this
    | verr =>
      have e : ((supOf h.sup n n).map fun _ => true) = some b := e
      obtain ⟨b', e1, e2⟩ := Option.map_eq_some_iff.mp e
      obtain ⟨x, en, F⟩ := key n b' e1
      refine ⟨by rw [excA_name, en]; exact excG_ok F.g, ?_⟩
      have := F.ve
      rw [← en, e2] at this
      exact this
    | _ => cases e
  exm := fun n m b e => by
    have e : supOf h.sup n m = some b := e
    obtain ⟨x, _, en, F⟩ := excF_of c (sq_lt sq e).1
    have := F.exm m (sq_lt sq e).2
    rw [← en, e] at this
    exact this
end
/-! ### a law's end -/
/-- as walk_ofE, the script's numbers bounded -/
theorem walk_ofEB {l : PySem.W.OpenLaw} {n k : Nat} {q : Program} {loose : List Str} {XP : (Str → Option Value) → Heap → Prop} {YP : World → Heap → Prop} {d : DefRec} {x : Str}
    (hn : l.most = some n) (hn2 : n ≤ sizeLine) (hdf : d.params.defaults = []) (hr : Room k callerA)
    (F : ∀ (w : World) (mg : Str → Option Value) (fa : Addr) (h : Heap), YP w h → h.Ns mainGlobals mg → mg d.name = some (.ref fa) →
      ∃ (K : PySem.W.Frag) (fd : FuncData) (sp : Sp), K.In h ∧ (∀ (s : Shared) (u : Value), BindsTo s fd ⟨[u], []⟩ [(x, u)]) ∧
        (∀ (H : Hp) (a : Addr) (ns : List Int), ns.length ≤ n → (∀ z ∈ ns, Builtin.Int.intBits z ≤ 1048576) → Only H → SqL K H a (ns.map V.int) → sp [.ref a] H (fun v _ => v = .bl true) fun _ _ _ => False) ∧
        ∀ base : Heap, K.In base → base.Ns mainGlobals mg → FnOk l.prog w K mg base (L2.CX l.prog w) k fa fd [x] sp) :
    PySem.W.WalkO q loose XP YP l.row.toRowW d [] (fun f vs => PySem.call f vs) := by
  refine Att.attach_callB hn hdf fun w s₀ s₁ mg mb fa o pm cd doc a vs ns G Y ho hd hcd hmg hobj hints hlen hbits hg => ?_
  obtain ⟨K, fd, sp, KX, hb, hsp, hF⟩ := F w mg fa _ Y G.T.g hmg
  exact law_call KX G.T.g G.T.b G.T.builtins G.T.nolimit hg hobj hints (Nat.le_trans hlen hn2) hr hF hb (fun H hO hS => hsp H a ns hlen hbits hO hS) fun H e s' hc => by
    obtain ⟨_, _, _, _, _, _, _, _, _, _, _, _, z⟩ := hc
    exact z.elim
/-- the script as the law gets it -/
def scriptD (ns : List Int) : D := .rol (ns.map .int)
/-- the law's promise over the tables, from what its meaning tells -/
theorem law_end {h : Hd} {n i k : Nat} {fs : List Fn} {x : DefM} {P : Program} {w : World} {K : PySem.W.Frag} {mg : Str → Option Value} {fa : Addr} {hp : Heap} (A : AllD h.tab n h.defs fs) (fl : h.flat = true) (sq : h.square = true) (X : K.In hp) (N : hp.Ns mainGlobals mg) (c : h.says K)
    (e : h.defs[i]? = some x) (hps : x.ps = [("script" : Str)]) (hn : x.d.at_ = (("law" : Str), none)) (hl : h.tab.fns.lookup ("law" : Str) = some i) (hmg : mg ("law" : Str) = some (.ref fa))
    (ht : ∀ ns : List Int, ns.length ≤ 63 → (∀ z ∈ ns, Builtin.Int.intBits z ≤ 1048576) → ∃ μ, callN fs k i [scriptD ns] [] = .ok (.bl true) μ) :
    ∃ (K : PySem.W.Frag) (fd : FuncData) (sp : Sp), K.In hp ∧ (∀ (s : Shared) (u : Value), BindsTo s fd ⟨[u], []⟩ [("script", u)]) ∧
        (∀ (H : Hp) (a : Addr) (ns : List Int), ns.length ≤ 63 → (∀ z ∈ ns, Builtin.Int.intBits z ≤ 1048576) → Only H → SqL K H a (ns.map V.int) → sp [.ref a] H (fun v _ => v = .bl true) fun _ _ _ => False) ∧
        ∀ base : Heap, K.In base → base.Ns mainGlobals mg → FnOk P w K mg base (L2.CX P w) k fa fd ["script"] sp := by
  have Y := wd_of fl sq X N c
  obtain ⟨fd, F⟩ := Y.def_ i x e
  obtain ⟨f, ef, DS⟩ := A.atX e
  obtain ⟨y, ey, hy⟩ := Y.fns _ _ hl
  rw [e] at ey
  cases ey
  have hfa : He.fAd (h.gt K).K x.d.at_ = fa := by
    rw [hmg] at hy
    cases hy
    rfl
  refine ⟨K, fd, spI (h.gt K) (callN fs k) i, X, fun s u => ?_, fun H a ns hl1 hb hO hS => ?_, fun base _ _ => ?_⟩
  · have b := F.bindsA DS.B s [u] (by rw [hps]; rfl)
    rw [hps] at b
    exact b
  · obtain ⟨μ, em⟩ := ht ns hl1 hb
    have fz : SqF K H a (ns.map V.int) := by
      rcases hS with (hS | ⟨o, hS⟩) | hS
      · rcases hO a with z | ⟨o, xs, z⟩
        · rw [z] at hS; cases hS
        · rw [z] at hS; cases hS
      · exact .inl ⟨o, hS⟩
      · exact .inr hS
    refine ⟨[scriptD ns], [], [], ⟨rfl, List.nodup_nil, fun n o a e1 _ => by simp at e1⟩, ⟨.ref a, [], rfl, ⟨a, ns.map V.int, rfl, fz, RpL.ofInts ns⟩, rfl⟩, ?_⟩
    rw [em]
    intro ι' H' x' s' v r
    exact r
  · rw [← hfa, ← hps]
    exact fn_all A Y k i x fd e F
end Mini

set_option Elab.async false
set_option linter.all false
set_option maxRecDepth 100000
set_option maxHeartbeats 4000000
/-! # Mini, part W: rules for the plain part -/
namespace Mini
open PySem

/-- what is wanted behind a run: of its value, of its error -/
def Wp {α : Type} (r : Res α) (Q : α → Store → Prop) (E : Nat → List D → Store → Prop) : Prop := match r with
  | .ok a μ => Q a μ
  | .err c fs μ => E c fs μ
  | .stuck => False
abbrev NoE : Nat → List D → Store → Prop := fun _ _ _ => False
section
variable {α β : Type} {Q : α → Store → Prop} {E : Nat → List D → Store → Prop} {μ : Store}
theorem Wp.mono {r : Res α} {Q' : α → Store → Prop} {E' : Nat → List D → Store → Prop} (h : Wp r Q E) (k : ∀ a μ, Q a μ → Q' a μ) (e : ∀ c fs μ, E c fs μ → E' c fs μ) : Wp r Q' E' := by
  cases r with
  | ok a μ => exact k _ _ h
  | err c fs μ => exact e _ _ _ h
  | stuck => exact h
theorem w_of {r : Res α} {a : α} {μ' : Store} (h : r = .ok a μ') (q : Q a μ') : Wp r Q E := by rw [h]; exact q
theorem w_ofE {r : Res α} {c : Nat} {fs : List D} {μ' : Store} (h : r = .err c fs μ') (q : E c fs μ') : Wp r Q E := by rw [h]; exact q
theorem w_get {r : Res α} (h : Wp r Q NoE) : ∃ a μ', r = .ok a μ' ∧ Q a μ' := by
  cases r with
  | ok a μ => exact ⟨a, μ, rfl, h⟩
  | err c fs μ => exact h.elim
  | stuck => exact h.elim
theorem w_ret {a : α} (q : Q a μ) : Wp (ret a μ) Q E := q
theorem w_ok {a : α} (q : Q a μ) : Wp (.ok a μ) Q E := q
theorem w_bnd {m : M β} {k : β → M α} (h : Wp (m μ) (fun b μ' => Wp (k b μ') Q E) E) : Wp (bnd m k μ) Q E := by
  unfold bnd
  cases e : m μ with
  | ok a μ => rw [e] at h; exact h
  | err c fs μ => rw [e] at h; exact h
  | stuck => rw [e] at h; exact h
theorem w_noErr {m : M α} (h : Wp (m μ) Q NoE) : Wp (noErr m μ) Q E := by
  unfold noErr
  cases e : m μ with
  | ok a μ => rw [e] at h; exact h
  | err c fs μ => rw [e] at h; exact h.elim
  | stuck => rw [e] at h; exact h
theorem w_ifP {p : Prop} [Decidable p] {m n : M α} (hp : p) (h : Wp (m μ) Q E) : Wp ((if p then m else n) μ) Q E := by rw [if_pos hp]; exact h
theorem w_ifN {p : Prop} [Decidable p] {m n : M α} (hp : ¬ p) (h : Wp (n μ) Q E) : Wp ((if p then m else n) μ) Q E := by rw [if_neg hp]; exact h
theorem w_opt {a : α} {o : Option α} (h : o = some a) (q : Q a μ) : Wp (optM o μ) Q E := by rw [h]; exact q
end
/-- a branch -/
def cond2 (b : Bool) (A B : Prop) : Prop := (b = true → A) ∧ (b = false → B)
section
variable {A B : Prop}
theorem c2T (h : A) : cond2 true A B := ⟨fun _ => h, fun z => (nomatch z)⟩
theorem c2F (h : B) : cond2 false A B := ⟨fun z => (nomatch z), fun _ => h⟩
theorem c2N {b : Bool} (h : cond2 b B A) : cond2 (!b) A B := by
  cases b with
  | true => exact c2F (h.1 rfl)
  | false => exact c2T (h.2 rfl)
theorem c2D {p : Prop} [Decidable p] (h : p → A) (k : ¬ p → B) : cond2 (decide p) A B := ⟨fun z => h (of_decide_eq_true z), fun z => k (of_decide_eq_false z)⟩
theorem c2B {b : Bool} (h : b = true → A) (k : b = false → B) : cond2 b A B := ⟨h, k⟩
theorem c2_of {b : Bool} (hb : b = true) (h : A) : cond2 b A B := by subst hb; exact c2T h
theorem c2_ofF {b : Bool} (hb : b = false) (h : B) : cond2 b A B := by subst hb; exact c2F h
end
section
variable {Q : D → Store → Prop} {QB : Bool → Store → Prop} {QL : List D → Store → Prop} {E : Nat → List D → Store → Prop} {μ : Store} {σ : Env} {a b c : Den} {t u : DenT} {x y z : D}
/-! ### expressions -/
theorem w_int {i : Nat} {n : Int} (h : σ[i]? = some (some (.int n))) (q : Q (.int n) μ) : Wp (cVar i σ μ) Q E := by unfold cVar; rw [h]; exact q
theorem w_var {i : Nat} {d : D} (h : σ[i]? = some (some d)) (hd : ∀ c fs, d ≠ .exn c fs) (q : Q d μ) : Wp (cVar i σ μ) Q E := by
  unfold cVar
  rw [h]
  cases d <;> first | exact q | exact absurd rfl (hd _ _)
/-- what stands in a slot -/
@[irreducible] def varQ (o : Option (Option D)) (Q : D → Store → Prop) (μ : Store) : Prop := match o with
  | some (some (.exn _ _)) => False
  | some (some d) => Q d μ
  | _ => False
theorem w_varQ {i : Nat} (h : varQ σ[i]? Q μ) : Wp (cVar i σ μ) Q E := by
  unfold cVar
  unfold varQ at h
  split at h
  · exact h.elim
  · rename_i d hd e
    rw [e]
    cases d <;> first | exact h | exact absurd rfl (hd _ _)
  · exact h.elim
theorem vq_int {n : Int} (q : Q (.int n) μ) : varQ (some (some (.int n))) Q μ := by unfold varQ; exact q
theorem vq_bl {n : Bool} (q : Q (.bl n) μ) : varQ (some (some (.bl n))) Q μ := by unfold varQ; exact q
theorem vq_loc {n : Nat} (q : Q (.loc n) μ) : varQ (some (some (.loc n))) Q μ := by unfold varQ; exact q
theorem vq_tup {n : List D} (q : Q (.tup n) μ) : varQ (some (some (.tup n))) Q μ := by unfold varQ; exact q
theorem vq_rol {n : List D} (q : Q (.rol n) μ) : varQ (some (some (.rol n))) Q μ := by unfold varQ; exact q
theorem vq_str {n : Str} (q : Q (.str n) μ) : varQ (some (some (.str n))) Q μ := by unfold varQ; exact q
theorem vq_non (q : Q .non μ) : varQ (some (some .non)) Q μ := by unfold varQ; exact q
@[irreducible] def optQ {α : Type} (o : Option α) (P : α → Prop) : Prop := match o with
  | some a => P a
  | none => False
theorem oq {α : Type} {a : α} {P : α → Prop} (q : P a) : optQ (some a) P := by unfold optQ; exact q
theorem w_K {d : D} (q : Q d μ) : Wp (cK d σ μ) Q E := q
theorem w_1 {f : D → M D} (h : Wp (a σ μ) (fun x μ1 => Wp (f x μ1) Q E) E) : Wp (c1 f a σ μ) Q E := w_bnd h
theorem w_2 {f : D → D → M D} (h : Wp (a σ μ) (fun x μ1 => Wp (b σ μ1) (fun y μ2 => Wp (f x y μ2) Q E) E) E) : Wp (c2 f a b σ μ) Q E := w_bnd (h.mono (fun _ _ q => w_bnd q) fun _ _ _ e => e)
theorem w_bV {m : M Bool} (h : Wp (m μ) (fun k μ' => Q (.bl k) μ') E) : Wp (bV m μ) Q E := w_bnd h
theorem w_cmp {op : Cop} (h : Wp (a σ μ) (fun x μ1 => Wp (b σ μ1) (fun y μ2 => Wp (cmpB op x y μ2) (fun k μ' => Q (.bl k) μ') E) E) E) : Wp (cCmp op a b σ μ) Q E := w_bnd (h.mono (fun _ _ q => w_bnd (q.mono (fun _ _ r => w_bV r) fun _ _ _ e => e)) fun _ _ _ e => e)
theorem w_tcmp {op : Cop} (h : Wp (a σ μ) (fun x μ1 => Wp (b σ μ1) (fun y μ2 => Wp (cmpB op x y μ2) QB E) E) E) : Wp (tCmp op a b σ μ) QB E := w_bnd (h.mono (fun _ _ q => w_bnd q) fun _ _ _ e => e)
theorem w_tchn {op op' : Cop} (h : Wp (a σ μ) (fun x μ1 => Wp (b σ μ1) (fun y μ2 => Wp (cmpB op x y μ2) (fun k μ3 => cond2 k (Wp (c σ μ3) (fun z μ4 => Wp (cmpB op' y z μ4) QB E) E) (QB false μ3)) E) E) E) : Wp (tChn op op' a b c σ μ) QB E :=
  w_bnd (h.mono (fun _ _ q => w_bnd (q.mono (fun _ _ r => w_bnd (r.mono (fun k μ3 s => by
    cases k with
    | true => rw [if_pos rfl]; exact w_bnd (s.1 rfl)
    | false => rw [if_neg Bool.false_ne_true]; exact s.2 rfl) fun _ _ _ e => e)) fun _ _ _ e => e)) fun _ _ _ e => e)
theorem w_chn {op op' : Cop} (h : Wp (a σ μ) (fun x μ1 => Wp (b σ μ1) (fun y μ2 => Wp (cmpB op x y μ2) (fun k μ3 => cond2 k (Wp (c σ μ3) (fun z μ4 => Wp (cmpB op' y z μ4) (fun k μ' => Q (.bl k) μ') E) E) (Q (.bl false) μ3)) E) E) E) : Wp (cChn op op' a b c σ μ) Q E := w_bV (w_tchn h)
theorem w_tval (h : Wp (a σ μ) (fun x μ1 => Wp (truB x μ1) QB E) E) : Wp (tVal a σ μ) QB E := w_bnd h
theorem w_tnot (h : Wp (t σ μ) (fun k μ1 => QB (!k) μ1) E) : Wp (tNot t σ μ) QB E := w_bnd h
theorem w_tand (h : Wp (t σ μ) (fun k μ1 => cond2 k (Wp (u σ μ1) QB E) (QB false μ1)) E) : Wp (tAnd t u σ μ) QB E := w_bnd (h.mono (fun k _ s => by
  cases k with
  | true => rw [if_pos rfl]; exact s.1 rfl
  | false => rw [if_neg Bool.false_ne_true]; exact s.2 rfl) fun _ _ _ e => e)
theorem w_tor (h : Wp (t σ μ) (fun k μ1 => cond2 k (QB true μ1) (Wp (u σ μ1) QB E)) E) : Wp (tOr t u σ μ) QB E := w_bnd (h.mono (fun k _ s => by
  cases k with
  | true => rw [if_pos rfl]; exact s.1 rfl
  | false => rw [if_neg Bool.false_ne_true]; exact s.2 rfl) fun _ _ _ e => e)
theorem w_cif (h : Wp (t σ μ) (fun k μ1 => cond2 k (Wp (a σ μ1) Q E) (Wp (b σ μ1) Q E)) E) : Wp (cIf t a b σ μ) Q E := w_bnd (h.mono (fun k _ s => by
  cases k with
  | true => rw [if_pos rfl]; exact s.1 rfl
  | false => rw [if_neg Bool.false_ne_true]; exact s.2 rfl) fun _ _ _ e => e)
/-- a value that is a bool -/
def blK (x : D) (P : Bool → Prop) : Prop := match x with
  | .bl k => P k
  | _ => False
theorem w_asB {x : D} {μ : Store} (h : blK x fun k => QB k μ) : Wp (asB x μ) QB E := by
  cases x <;> first | exact h | exact h.elim
theorem w_cand (h : Wp (a σ μ) (fun x μ1 => blK x fun k => cond2 k (Wp (b σ μ1) Q E) (Q (.bl false) μ1)) E) : Wp (cAnd a b σ μ) Q E := w_bnd (h.mono (fun x μ1 s => w_bnd (w_asB (by
  cases x <;> first | exact s.elim | skip
  rename_i k
  cases k with
  | true => exact s.1 rfl
  | false => exact s.2 rfl))) fun _ _ _ e => e)
theorem w_cor (h : Wp (a σ μ) (fun x μ1 => blK x fun k => cond2 k (Q (.bl true) μ1) (Wp (b σ μ1) Q E)) E) : Wp (cOr a b σ μ) Q E := w_bnd (h.mono (fun x μ1 s => w_bnd (w_asB (by
  cases x <;> first | exact s.elim | skip
  rename_i k
  cases k with
  | true => exact s.1 rfl
  | false => exact s.2 rfl))) fun _ _ _ e => e)
theorem w_cnot (h : Wp (a σ μ) (fun x μ1 => blK x fun k => Q (.bl (!k)) μ1) E) : Wp (cNot a σ μ) Q E := w_bnd (h.mono (fun x μ1 s => w_bnd (w_asB (by
  cases x <;> first | exact s.elim | exact s))) fun _ _ _ e => e)
variable {da : DenA}
theorem w_nil (q : QL [] μ) : Wp (aNil σ μ) QL E := q
theorem w_cons (h : Wp (a σ μ) (fun x μ1 => Wp (da σ μ1) (fun xs μ2 => QL (x :: xs) μ2) E) E) : Wp (aCons a da σ μ) QL E := w_bnd (h.mono (fun _ _ q => w_bnd q) fun _ _ _ e => e)
theorem w_call {C : Orc} {i : Nat} (h : Wp (da σ μ) (fun ds μ1 => Wp (C i ds μ1) Q E) E) : Wp (cCall C i da σ μ) Q E := w_bnd h
theorem w_B {g : List D → M D} (h : Wp (da σ μ) (fun ds μ1 => Wp (g ds μ1) Q E) E) : Wp (cB g da σ μ) Q E := w_bnd h
theorem w_M {ck : D → M Unit} {g : D → List D → M D} (h : Wp (a σ μ) (fun x μ1 => Wp (ck x μ1) (fun _ μ2 => Wp (da σ μ2) (fun ys μ3 => Wp (g x ys μ3) Q E) E) E) E) : Wp (cM ck g a da σ μ) Q E :=
  w_bnd (h.mono (fun _ _ q => w_bnd (q.mono (fun _ _ r => w_bnd r) fun _ _ _ e => e)) fun _ _ _ e => e)
theorem w_tup (h : Wp (da σ μ) (fun ds μ1 => ds.length ≤ lineN ∧ Q (.tup ds) μ1) E) : Wp (cTup da σ μ) Q E := w_bnd (h.mono (fun ds μ1 q => by
  unfold newT
  rw [if_pos q.1]
  exact q.2) fun _ _ _ e => e)
theorem w_lst (h : Wp (da σ μ) (fun ds μ1 => ds.length ≤ lineN ∧ Q (.loc μ1.length) (μ1 ++ [.lst ds])) E) : Wp (cLst da σ μ) Q E := w_bnd (h.mono (fun ds μ1 q => by
  unfold newL
  rw [if_pos q.1]
  exact q.2) fun _ _ _ e => e)
theorem w_sl {lo hi : DenP} (h : Wp (a σ μ) (fun x μ1 => Wp (lo σ μ1) (fun l μ2 => Wp (hi σ μ2) (fun r μ3 => Wp (slD x l r μ3) Q E) E) E) E) : Wp (cSl a lo hi σ μ) Q E :=
  w_bnd (h.mono (fun _ _ q => w_bnd (q.mono (fun _ _ r => w_bnd r) fun _ _ _ e => e)) fun _ _ _ e => e)
theorem w_pno {QP : Option Int → Store → Prop} (q : QP none μ) : Wp (pNo σ μ) QP E := q
def intK (x : D) (P : Int → Prop) : Prop := match x with
  | .int k => P k
  | _ => False
theorem w_psome {QP : Option Int → Store → Prop} (h : Wp (a σ μ) (fun x μ1 => intK x fun i => QP (some i) μ1) E) : Wp (pSome a σ μ) QP E := w_bnd (h.mono (fun x μ1 s => by
  cases x <;> first | exact s | exact s.elim) fun _ _ _ e => e)
theorem w_is1 {ty : Ty} (h : Wp (a σ μ) (fun x μ1 => Wp (isTy x ty μ1) (fun k μ' => Q (.bl k) μ') E) E) : Wp (cIs1 a ty σ μ) Q E := w_bnd (h.mono (fun _ _ q => w_bV q) fun _ _ _ e => e)
theorem w_is {ty : List Ty} (h : Wp (a σ μ) (fun x μ1 => Wp (isTys x ty μ1) (fun k μ' => Q (.bl k) μ') E) E) : Wp (cIs a ty σ μ) Q E := w_bnd (h.mono (fun _ _ q => w_bV q) fun _ _ _ e => e)
theorem w_isT {ty : Ty} {k : Kd} {r : Bool} (h : kdOf μ x = some k) (h2 : kdIs k ty = some r) (q : QB r μ) : Wp (isTy x ty μ) QB E := by
  unfold isTy
  rw [h, Option.bind_some, h2]
  exact q
theorem w_isQ {ty : Ty} (h : optQ ((kdOf μ x).bind fun k => kdIs k ty) fun r => QB r μ) : Wp (isTy x ty μ) QB E := by
  unfold isTy
  cases e : (kdOf μ x).bind fun k => kdIs k ty with
  | none => rw [e] at h; unfold optQ at h; exact h.elim
  | some b => rw [e] at h; unfold optQ at h; exact h
theorem kd_loc {n : Nat} {xs : List D} {μ : Store} (h : μ[n]? = some (.lst xs)) : kdOf μ (.loc n) = some .lst := by
  simp only [kdOf, h]
theorem w_isQs {ty : List Ty} (h : optQ ((kdOf μ x).bind fun k => kdAny k ty) fun r => QB r μ) : Wp (isTys x ty μ) QB E := by
  unfold isTys
  cases e : (kdOf μ x).bind fun k => kdAny k ty with
  | none => rw [e] at h; unfold optQ at h; exact h.elim
  | some b => rw [e] at h; unfold optQ at h; exact h
theorem w_BL {g : List D → M D} {m : Env → M (List D)} (h : Wp (m σ μ) (fun xs μ1 => Wp (g xs μ1) Q E) E) : Wp (cBL g m σ μ) Q E := w_bnd h
theorem w_Lc {own : List Nat} {it : DenI} {g : DenG} {e : Den} (h : Wp (lcI own it g t e σ μ) (fun xs μ1 => Q (.loc μ1.length) (μ1 ++ [.lst xs])) E) : Wp (cLc own it g t e σ μ) Q E := w_bnd h
theorem w_LR2 (h : Wp (a σ μ) (fun x μ1 => Wp (b σ μ1) (fun y μ2 => Wp (lrD x y μ2) Q E) E) E) : Wp (cLR2 a b σ μ) Q E := w_bnd (h.mono (fun _ _ q => w_bnd q) fun _ _ _ e => e)
/-! ### by values -/
theorem w_add {i j : Int} (q : Q (.int (i + j)) μ) : Wp (addD (.int i) (.int j) μ) Q E := q
theorem w_addT {xs ys : List D} (h : (xs ++ ys).length ≤ lineN) (q : Q (.tup (xs ++ ys)) μ) : Wp (addD (.tup xs) (.tup ys) μ) Q E := by
  show Wp (newT (xs ++ ys) μ) Q E
  unfold newT
  rw [if_pos h]
  exact q
theorem w_addL {n m : Nat} {xs ys : List D} (h1 : μ[n]? = some (.lst xs)) (h2 : μ[m]? = some (.lst ys)) (h : (xs ++ ys).length ≤ lineN) (q : Q (.loc μ.length) (μ ++ [.lst (xs ++ ys)])) : Wp (addD (.loc n) (.loc m) μ) Q E := by
  show Wp (bnd (litems (.loc n)) (fun xs => bnd (litems (.loc m)) fun ys => newL (xs ++ ys)) μ) Q E
  refine w_bnd ?_
  unfold litems
  dsimp only
  rw [h1]
  refine w_ok (w_bnd ?_)
  rw [h2]
  show Wp (newL (xs ++ ys) μ) Q E
  unfold newL
  rw [if_pos h]
  exact q
theorem w_sub {i j : Int} (q : Q (.int (i - j)) μ) : Wp (subD (.int i) (.int j) μ) Q E := q
theorem w_neg {i : Int} (q : Q (.int (-i)) μ) : Wp (negD (.int i) μ) Q E := q
theorem w_mul {i j : Int} (h : mulOk i j) (q : Q (.int (i * j)) μ) : Wp (mulD (.int i) (.int j) μ) Q E := by
  show Wp ((if mulOk i j then ret (.int (i * j)) else stk) μ) Q E
  rw [if_pos h]
  exact q
theorem w_div {i j : Int} (h : 0 < j ∧ j.natAbs.log2 < 9000) (q : Q (.int (i / j)) μ) : Wp (divD (.int i) (.int j) μ) Q E := by
  unfold divD
  dsimp only
  rw [if_pos h]
  exact q
theorem w_mod {i j : Int} (h : 0 < j) (q : Q (.int (i % j)) μ) : Wp (modD (.int i) (.int j) μ) Q E := by
  unfold modD
  dsimp only
  rw [if_pos h]
  exact q
theorem w_pow {i j : Int} (h : 0 ≤ j ∧ j ≤ 1000000 ∧ i.natAbs < 2 ^ 64) (q : Q (.int (i ^ j.toNat)) μ) : Wp (powD (.int i) (.int j) μ) Q E := by
  unfold powD
  dsimp only
  rw [if_pos h]
  exact q
theorem w_eqI {i j : Int} (q : QB (decide (i = j)) μ) : Wp (cmpB .eq (.int i) (.int j) μ) QB E := by
  have : (i == j) = decide (i = j) := by
    by_cases h : i = j <;> simp [h]
  show QB (i == j) μ
  rw [this]
  exact q
theorem w_neI {i j : Int} (q : QB (!decide (i = j)) μ) : Wp (cmpB .ne (.int i) (.int j) μ) QB E := by
  have : (i == j) = decide (i = j) := by
    by_cases h : i = j <;> simp [h]
  show QB (!(i == j)) μ
  rw [this]
  exact q
theorem w_ltI {i j : Int} (q : QB (decide (i < j)) μ) : Wp (cmpB .lt (.int i) (.int j) μ) QB E := q
theorem w_leI {i j : Int} (q : QB (decide (i ≤ j)) μ) : Wp (cmpB .le (.int i) (.int j) μ) QB E := q
theorem w_gtI {i j : Int} (q : QB (decide (j < i)) μ) : Wp (cmpB .gt (.int i) (.int j) μ) QB E := q
theorem w_geI {i j : Int} (q : QB (decide (j ≤ i)) μ) : Wp (cmpB .ge (.int i) (.int j) μ) QB E := q
theorem w_truB {k : Bool} (q : QB k μ) : Wp (truB (.bl k) μ) QB E := q
theorem w_len {n : Nat} {xs : List D} (h : μ[n]? = some (.lst xs)) (q : Q (.int xs.length) μ) : Wp (bLen [.loc n] μ) Q E := by
  show Wp (bnd (items (.loc n)) (fun xs => ret (.int xs.length)) μ) Q E
  refine w_bnd ?_
  unfold items
  dsimp only
  rw [h]
  exact q
theorem w_lenT {xs : List D} (q : Q (.int xs.length) μ) : Wp (bLen [.tup xs] μ) Q E := q
theorem w_lenR {xs : List D} (q : Q (.int xs.length) μ) : Wp (bLen [.rol xs] μ) Q E := q
theorem w_absI {i : Int} (q : Q (.int (if i < 0 then -i else i)) μ) : Wp (bAbs [.int i] μ) Q E := q
theorem w_intI {i : Int} (q : Q (.int i) μ) : Wp (bInt [.int i] μ) Q E := q
theorem w_minI {i j : Int} (q : Q (.int (if j < i then j else i)) μ) : Wp (bMin [.int i, .int j] μ) Q E := q
theorem w_maxI {i j : Int} (q : Q (.int (if j > i then j else i)) μ) : Wp (bMax [.int i, .int j] μ) Q E := q
theorem w_sumI {ns : List Int} (q : Q (.int ns.sum) μ) : Wp (bSumI (ns.map .int) μ) Q E := by
  unfold bSumI
  rw [intsOf_map]
  exact q
theorem w_sumT {ns : List Int} (q : Q (.int ns.sum) μ) : Wp (bSum [.tup (ns.map .int)] μ) Q E := by
  show Wp (bSumI (ns.map .int) μ) Q E
  exact w_sumI q
theorem w_allI {bs : List Bool} (q : Q (.bl (bs.all id)) μ) : Wp (bAllI (bs.map .bl) μ) Q E := by
  unfold bAllI
  rw [blsOf_map]
  exact q
theorem w_anyI {bs : List Bool} (q : Q (.bl (bs.any id)) μ) : Wp (bAnyI (bs.map .bl) μ) Q E := by
  unfold bAnyI
  rw [blsOf_map]
  exact q
theorem w_newT {xs : List D} (h : xs.length ≤ lineN) (q : Q (.tup xs) μ) : Wp (newT xs μ) Q E := by
  unfold newT
  rw [if_pos h]
  exact q
theorem w_ixL {n : Nat} {i : Int} {xs : List D} {d : D} (h : μ[n]? = some (.lst xs)) (h2 : L2.atI xs i = some d) (q : Q d μ) : Wp (ixD (.loc n) (.int i) μ) Q E := by
  show Wp (bnd (items (.loc n)) (fun xs => optM (L2.atI xs i)) μ) Q E
  refine w_bnd ?_
  unfold items
  dsimp only
  rw [h]
  exact w_opt h2 q
theorem w_ixT {i : Int} {xs : List D} {d : D} (h2 : L2.atI xs i = some d) (q : Q d μ) : Wp (ixD (.tup xs) (.int i) μ) Q E := by
  show Wp (optM (L2.atI xs i) μ) Q E
  exact w_opt h2 q
theorem w_slT {xs : List D} {l r : Option Int} (q : Q (.tup (cutL xs l r)) μ) : Wp (slD (.tup xs) l r μ) Q E := q
theorem w_slR {xs : List D} {l r : Option Int} (q : Q (.loc μ.length) (μ ++ [.lst (cutL xs l r)])) : Wp (slD (.rol xs) l r μ) Q E := q
theorem w_slL {n : Nat} {xs : List D} {l r : Option Int} (h : μ[n]? = some (.lst xs)) (q : Q (.loc μ.length) (μ ++ [.lst (cutL xs l r)])) : Wp (slD (.loc n) l r μ) Q E := by
  show Wp (bnd (litems (.loc n)) (fun xs => alloc (.lst (cutL xs l r))) μ) Q E
  refine w_bnd ?_
  unfold litems
  dsimp only
  rw [h]
  exact q
theorem w_isLst {n : Nat} {xs : List D} {QU : Unit → Store → Prop} (h : μ[n]? = some (.lst xs)) (q : QU () μ) : Wp (isLst (.loc n) μ) QU E := by
  show Wp (bnd (litems (.loc n)) (fun _ => ret ()) μ) QU E
  refine w_bnd ?_
  unfold litems
  dsimp only
  rw [h]
  exact q
theorem w_append {n : Nat} {xs : List D} (h : μ[n]? = some (.lst xs)) (hz : xs.length < lineN) (q : Q .non (μ.set n (.lst (xs ++ [y])))) : Wp (mAppend (.loc n) [y] μ) Q E := by
  show Wp (bnd (litems (.loc n)) (fun xs => if xs.length < lineN then bnd (wr n (xs ++ [y])) fun _ => ret .non else stk) μ) Q E
  refine w_bnd ?_
  unfold litems
  dsimp only
  rw [h]
  refine w_ok (w_ifP hz ?_)
  exact q
end
/-! ### statements -/
section
variable {Q : Fl → Store → Prop} {E : Nat → List D → Store → Prop} {μ : Store} {σ : Env} {a : Den} {t : DenT} {s u : DenS}
/-- an error of an expression -/
abbrev exK (Q : Fl → Store → Prop) (σ : Env) : Nat → List D → Store → Prop := fun c fs μ => Q (.ex c fs σ) μ
/-- behind the first statement -/
def sqK (u : DenS) (Q : Fl → Store → Prop) : Fl → Store → Prop := fun f μ => match f with
  | .nx σ' => Wp (u σ' μ) Q NoE
  | f => Q f μ
theorem w_lft {α : Type} {m : M α} {k : α → M Fl} (h : Wp (m μ) (fun x μ1 => Wp (k x μ1) Q NoE) (exK Q σ)) : Wp (lft σ m k μ) Q NoE := by
  unfold lft
  cases e : m μ with
  | ok a μ' => rw [e] at h; exact h
  | err c fs μ' => rw [e] at h; exact h
  | stuck => rw [e] at h; exact h
theorem w_snil (q : Q (.nx σ) μ) : Wp (sNil σ μ) Q NoE := q
theorem w_seq (h : Wp (s σ μ) (sqK u Q) NoE) : Wp (sSeq s u σ μ) Q NoE := by
  refine w_bnd (h.mono (fun f μ1 q => ?_) fun _ _ _ e => e)
  cases f <;> exact q
theorem w_seq1 (h : Wp (s σ μ) Q NoE) : Wp (sSeq s sNil σ μ) Q NoE := by
  refine w_bnd (h.mono (fun f μ1 q => ?_) fun _ _ _ e => e)
  cases f <;> exact q
theorem w_sret (h : Wp (a σ μ) (fun d μ1 => Q (.rt d) μ1) (exK Q σ)) : Wp (sRet a σ μ) Q NoE := w_lft h
theorem w_sretN (q : Q (.rt .non) μ) : Wp (sRetN σ μ) Q NoE := q
theorem w_sexp (h : Wp (a σ μ) (fun _ μ1 => Q (.nx σ) μ1) (exK Q σ)) : Wp (sExp a σ μ) Q NoE := w_lft h
theorem w_sif (h : Wp (t σ μ) (fun k μ1 => cond2 k (Wp (s σ μ1) Q NoE) (Wp (u σ μ1) Q NoE)) (exK Q σ)) : Wp (sIf t s u σ μ) Q NoE := w_lft (h.mono (fun k _ q => by
  cases k with
  | true => rw [if_pos rfl]; exact q.1 rfl
  | false => rw [if_neg Bool.false_ne_true]; exact q.2 rfl) fun _ _ _ e => e)
theorem w_asg {g : DenG} (h : Wp (a σ μ) (fun d μ1 => Wp (g d σ μ1) (fun σ' μ2 => Q (.nx σ') μ2) NoE) (exK Q σ)) : Wp (sAsg g a σ μ) Q NoE := w_lft (h.mono (fun d μ1 q => w_bnd (w_noErr q)) fun _ _ _ e => e)
theorem w_brk (q : Q (.bk σ) μ) : Wp (sBrk σ μ) Q NoE := q
theorem w_cnt (q : Q (.ct σ) μ) : Wp (sCnt σ μ) Q NoE := q
theorem w_raise {n : Nat} (q : Q (.ex n [] σ) μ) : Wp (sRaise n σ μ) Q NoE := q
theorem w_for {it : DenI} {g : DenG} {b : DenS} (h : Wp (it σ μ) (fun src μ1 => Wp (forLoop g b src 1000000000 0 σ μ1) Q NoE) (exK Q σ)) : Wp (sFor it g b σ μ) Q NoE := w_lft h
/-- behind the body of a try -/
def tryK (sup : Nat → Nat → Option Bool) (cn i : Nat) (h : DenS) (Q : Fl → Store → Prop) : Fl → Store → Prop := fun f μ => match f with
  | .ex e fs σ1 => match sup e cn with
    | some true => Wp (h (σ1.set i (some (.exn e fs))) μ) (fun f μ' => match f with
      | .rt d => Q (.rt d) μ'
      | _ => False) NoE
    | some false => Q (.ex e fs σ1) μ
    | none => False
  | f => Q f μ
theorem w_try {sup : Nat → Nat → Option Bool} {cn i : Nat} {h : DenS} (w : Wp (s σ μ) (tryK sup cn i h Q) NoE) : Wp (sTry sup s cn i h σ μ) Q NoE := by
  refine w_bnd (w.mono (fun f μ1 q => ?_) fun _ _ _ e => e)
  cases f with
  | ex e fs σ1 =>
    dsimp only [tryK] at q
    dsimp only
    cases es : sup e cn with
    | none => rw [es] at q; exact q.elim
    | some b =>
      rw [es] at q
      cases b with
      | true =>
        refine w_bnd (w_ok ?_)
        rw [if_pos rfl]
        refine w_bnd (q.mono (fun f2 μ2 q2 => ?_) fun _ _ _ e => e)
        cases f2 <;> first | exact q2 | exact q2.elim
      | false => exact q
  | _ => exact q
theorem w_gN {i : Nat} {d : D} {QE : Env → Store → Prop} (q : QE (σ.set i (some d)) μ) : Wp (gN i d σ μ) QE E := q
theorem w_gT {n : Nat} {gs : DenGs} {xs : List D} {QE : Env → Store → Prop} (hn : xs.length = n) (h : Wp (gs xs σ μ) QE E) : Wp (gT n gs (.tup xs) σ μ) QE E := by
  show Wp ((if xs.length = n then gs xs σ else stk) μ) QE E
  rw [if_pos hn]
  exact h
theorem w_gsNil {QE : Env → Store → Prop} (q : QE σ μ) : Wp (gsNil [] σ μ) QE E := q
theorem w_gsCons {g : DenG} {gs : DenGs} {x : D} {xs : List D} {QE : Env → Store → Prop} (h : Wp (g x σ μ) (fun σ' μ' => Wp (gs xs σ' μ') QE E) E) : Wp (gsCons g gs (x :: xs) σ μ) QE E := w_bnd h
theorem w_gI {o i : Den} {d : D} {QE : Env → Store → Prop} (h : Wp (o σ μ) (fun x μ1 => Wp (i σ μ1) (fun y μ2 => Wp (setD x y d μ2) (fun _ μ3 => QE σ μ3) E) E) E) : Wp (gI o i d σ μ) QE E :=
  w_bnd (h.mono (fun _ _ q => w_bnd (q.mono (fun _ _ r => w_bnd r) fun _ _ _ e => e)) fun _ _ _ e => e)
theorem w_setD {n : Nat} {k : Int} {j : Nat} {xs : List D} {d : D} {QU : Unit → Store → Prop} (h : μ[n]? = some (.lst xs)) (hj : L2.ixN xs.length k = some j) (q : QU () (μ.set n (.lst (xs.set j d)))) : Wp (setD (.loc n) (.int k) d μ) QU E := by
  show Wp (bnd (litems (.loc n)) (fun xs => bnd (optM (L2.ixN xs.length k)) fun j => wr n (xs.set j d)) μ) QU E
  refine w_bnd ?_
  unfold litems
  dsimp only
  rw [h]
  refine w_ok (w_bnd (w_opt hj ?_))
  exact q
/-! ### what is walked -/
variable {QI : Src → Store → Prop}
theorem w_iV (h : Wp (a σ μ) (fun x μ1 => Wp (srcD x μ1) QI E) E) : Wp (iV a σ μ) QI E := w_bnd h
theorem w_srcT {xs : List D} (q : QI (srcOf xs) μ) : Wp (srcD (.tup xs) μ) QI E := q
theorem w_srcR {xs : List D} (q : QI (srcOf xs) μ) : Wp (srcD (.rol xs) μ) QI E := q
theorem w_srcL {n : Nat} {xs : List D} (h : μ[n]? = some (.lst xs)) (q : QI (srcL n) μ) : Wp (srcD (.loc n) μ) QI E := by
  show Wp (bnd (litems (.loc n)) (fun _ => ret (srcL n)) μ) QI E
  refine w_bnd ?_
  unfold litems
  dsimp only
  rw [h]
  exact q
theorem w_rng1 {n : Int} (h : Wp (a σ μ) (fun x μ1 => x = .int n ∧ rngOk n ∧ QI (srcR 0 n) μ1) E) : Wp (iRng1 a σ μ) QI E := w_bnd (h.mono (fun x μ1 ⟨e, r, q⟩ => by
  subst e
  dsimp only
  rw [if_pos r]
  exact q) fun _ _ _ e => e)
theorem w_rng1' (h : Wp (a σ μ) (fun x μ1 => intK x fun n => rngOk n ∧ QI (srcR 0 n) μ1) E) : Wp (iRng1 a σ μ) QI E := w_bnd (h.mono (fun x μ1 z => by
  cases x <;> first | exact z.elim | skip
  dsimp only
  rw [if_pos z.1]
  exact z.2) fun _ _ _ e => e)
end
/-! ### loops -/
/-- the source has the items ds at every store that I allows -/
def Feeds (src : Src) (ds : List D) (μ : Store) : Prop := ∀ i, src i μ = some ds[i]?
theorem feeds_of {ds : List D} {μ : Store} : Feeds (srcOf ds) ds μ := fun _ => rfl
theorem feeds_L {n : Nat} {ds : List D} {μ : Store} (h : μ[n]? = some (.lst ds)) : Feeds (srcL n) ds μ := fun i => by
  unfold srcL
  rw [h]
theorem feeds_R {n : Int} {μ : Store} : Feeds (srcR 0 n) ((List.range n.toNat).map fun (k : Nat) => .int k) μ := fun i => by
  unfold srcR
  rw [Int.sub_zero, List.getElem?_map]
  by_cases h : i < n.toNat
  · rw [if_pos h, List.getElem?_range h]
    simp
  · rw [if_neg h, List.getElem?_eq_none (by rw [List.length_range]; omega)]
    rfl
/-- what a turn of a for-loop leaves -/
def turnK (I : Env → Store → Prop) (Q : Fl → Store → Prop) : Fl → Store → Prop := fun f μ => match f with
  | .nx σ => I σ μ
  | .ct σ => I σ μ
  | .bk σ => Q (.nx σ) μ
  | f => Q f μ
/-- a for-loop by an invariant: I i: the first i items are done -/
theorem w_forI {g : DenG} {b : DenS} {src : Src} {Q : Fl → Store → Prop} (ds : List D) (I : Nat → Env → Store → Prop) (hl : ds.length < 1000000000)
    (hf : ∀ i σ μ, I i σ μ → Feeds src ds μ) (step : ∀ i d σ μ, ds[i]? = some d → I i σ μ → Wp (g d σ μ) (fun σ1 μ1 => Wp (b σ1 μ1) (turnK (I (i + 1)) Q) NoE) NoE) (fin : ∀ σ μ, I ds.length σ μ → Q (.nx σ) μ) {σ : Env} {μ : Store} (h0 : I 0 σ μ) :
    Wp (forLoop g b src 1000000000 0 σ μ) Q NoE := by
  have key : ∀ (n i : Nat) (σ : Env) (μ : Store), i ≤ ds.length → ds.length - i < n → I i σ μ → Wp (forLoop g b src n i σ μ) Q NoE := by
    intro n
    induction n with
    | zero => intro i σ μ _ hn; omega
    | succ n ih =>
      intro i σ μ hi hn hI
      have hs := hf i σ μ hI i
      by_cases hlt : i < ds.length
      · have e : ds[i]? = some ds[i] := List.getElem?_eq_getElem hlt
        rw [e] at hs
        rw [forLoop_go hs]
        refine w_bnd (w_noErr ((step i _ σ μ e hI).mono (fun σ1 μ1 q => w_bnd (q.mono (fun f μ2 q2 => ?_) fun _ _ _ e => e)) fun _ _ _ e => e))
        cases f with
        | nx σ2 => exact ih (i + 1) σ2 μ2 hlt (by omega) q2
        | ct σ2 => exact ih (i + 1) σ2 μ2 hlt (by omega) q2
        | bk σ2 => exact q2
        | rt d => exact q2
        | ex c fs σ2 => exact q2
      · have e : i = ds.length := by omega
        subst e
        rw [List.getElem?_eq_none (Nat.le_refl _)] at hs
        rw [forLoop_end hs]
        exact fin σ μ hI
  exact key _ 0 σ μ (Nat.zero_le _) (by omega) h0
/-- a list comprehension by an invariant: I i acc: the first i items are done, acc is made -/
theorem w_lcI {own : List Nat} {it : DenI} {g : DenG} {t : DenT} {e : Den} {σ : Env} {μ : Store} {Q : List D → Store → Prop} {E : Nat → List D → Store → Prop}
    (h : Wp (it σ μ) (fun src μ1 => Wp (lcLoop g t e src (wip σ own) 1000000000 0 [] μ1) Q NoE) E) : Wp (lcI own it g t e σ μ) Q E := w_bnd (h.mono (fun src μ1 q => w_noErr q) fun _ _ _ e => e)
theorem w_lcL {g : DenG} {t : DenT} {e : Den} {src : Src} {σ : Env} {Q : List D → Store → Prop} (ds : List D) (I : Nat → List D → Store → Prop) (hl : ds.length < 1000000000)
    (hf : ∀ i acc μ, I i acc μ → Feeds src ds μ ∧ acc.length < lineN) (step : ∀ i d acc μ, ds[i]? = some d → I i acc μ → Wp (g d σ μ) (fun σ1 μ1 => Wp (t σ1 μ1) (fun k μ2 => cond2 k (Wp (e σ1 μ2) (fun y μ3 => I (i + 1) (acc ++ [y]) μ3) NoE) (I (i + 1) acc μ2)) NoE) NoE)
    (fin : ∀ acc μ, I ds.length acc μ → Q acc μ) {μ : Store} (h0 : I 0 [] μ) : Wp (lcLoop g t e src σ 1000000000 0 [] μ) Q NoE := by
  have key : ∀ (n i : Nat) (acc : List D) (μ : Store), i ≤ ds.length → ds.length - i < n → I i acc μ → Wp (lcLoop g t e src σ n i acc μ) Q NoE := by
    intro n
    induction n with
    | zero => intro i acc μ _ hn; omega
    | succ n ih =>
      intro i acc μ hi hn hI
      obtain ⟨hs, hz⟩ := hf i acc μ hI
      have hs := hs i
      by_cases hlt : i < ds.length
      · have e : ds[i]? = some ds[i] := List.getElem?_eq_getElem hlt
        rw [e] at hs
        rw [lcLoop_go hs]
        refine w_bnd ((step i _ acc μ e hI).mono (fun σ1 μ1 q => w_bnd (q.mono (fun k μ2 q2 => ?_) fun _ _ _ e => e)) fun _ _ _ e => e)
        cases k with
        | true =>
          rw [if_pos rfl]
          refine w_bnd ((q2.1 rfl).mono (fun y μ3 q3 => ?_) fun _ _ _ e => e)
          rw [if_pos hz]
          exact ih (i + 1) _ μ3 hlt (by omega) q3
        | false =>
          rw [if_neg Bool.false_ne_true]
          exact ih (i + 1) _ μ2 hlt (by omega) (q2.2 rfl)
      · have e : i = ds.length := by omega
        subst e
        rw [List.getElem?_eq_none (Nat.le_refl _)] at hs
        rw [lcLoop_end hs]
        exact fin acc μ hI
  exact key _ 0 [] μ (Nat.zero_le _) (by omega) h0
/-- .. that keeps the store: the items f d of those that p lets -/
theorem w_lcP {g : DenG} {t : DenT} {e : Den} {src : Src} {σ : Env} {Q : List D → Store → Prop} {ds : List D} (p : D → Bool) (f : D → D) (μ : Store) (hl : ds.length < lineN) (hf : Feeds src ds μ)
    (step : ∀ d ∈ ds, Wp (g d σ μ) (fun σ1 μ1 => Wp (t σ1 μ1) (fun k μ2 => k = p d ∧ cond2 k (Wp (e σ1 μ2) (fun y μ3 => y = f d ∧ μ3 = μ) NoE) (μ2 = μ)) NoE) NoE) (q : Q ((ds.filter p).map f) μ) : Wp (lcLoop g t e src σ 1000000000 0 [] μ) Q NoE := by
  have hl2 : ds.length < 1000000000 := Nat.lt_trans hl (by decide)
  refine w_lcL ds (fun i acc μ' => μ' = μ ∧ acc = ((ds.take i).filter p).map f) hl2 (fun i acc μ' ⟨h1, h2⟩ => ?_) (fun i d acc μ' hd ⟨h1, h2⟩ => ?_) (fun acc μ' ⟨h1, h2⟩ => ?_) ⟨rfl, by simp⟩
  · subst h1 h2
    refine ⟨hf, ?_⟩
    rw [List.length_map]
    refine Nat.lt_of_le_of_lt (List.length_filter_le _ _) (Nat.lt_of_le_of_lt ?_ hl)
    rw [List.length_take]
    omega
  · subst h1 h2
    have hm : d ∈ ds := List.mem_of_getElem? hd
    have ht : ds.take (i + 1) = ds.take i ++ [d] := by
      rw [List.take_succ, hd]
      rfl
    refine (step d hm).mono (fun σ1 μ1 z => z.mono (fun k μ2 ⟨ek, z2⟩ => ?_) fun _ _ _ e => e) fun _ _ _ e => e
    refine ⟨fun hk => (z2.1 hk).mono (fun y μ3 ⟨e1, e2⟩ => ⟨e2, ?_⟩) fun _ _ _ e => e, fun hk => ⟨z2.2 hk, ?_⟩⟩
    · rw [ht, List.filter_append, List.map_append, e1]
      simp [← ek, hk]
    · rw [ht, List.filter_append, List.map_append]
      simp [← ek, hk]
  · rw [List.take_length] at h2
    rw [h1, h2]
    exact q
/-! ### calls -/
/-- behind a call's body -/
def retQ (n : Nat) (d : D) (μ' : Store) (Q : D → Store → Prop) : Prop := (d.lt n = true → (μ'.take n).all (Ob.lt n) = true → Q d (μ'.take n)) ∧ (¬ (d.lt n = true ∧ (μ'.take n).all (Ob.lt n) = true) → Q d μ')
def retE (n : Nat) (c : Nat) (fs : List D) (μ' : Store) (E : Nat → List D → Store → Prop) : Prop := (lts n fs = true → (μ'.take n).all (Ob.lt n) = true → E c fs (μ'.take n)) ∧ (¬ (lts n fs = true ∧ (μ'.take n).all (Ob.lt n) = true) → E c fs μ')
def fnK (n : Nat) (Q : D → Store → Prop) (E : Nat → List D → Store → Prop) : Fl → Store → Prop := fun f μ' => match f with
  | .nx _ => retQ n .non μ' Q
  | .rt d => retQ n d μ' Q
  | .ex c fs _ => retE n c fs μ' E
  | _ => False
theorem w_fn {fns : List Fn} {k i : Nat} {f : Fn} {ds : List D} {μ : Store} {Q : D → Store → Prop} {E : Nat → List D → Store → Prop} (hf : fns[i]? = some f) (hn : ds.length = f.np) (h : Wp (f.den (callN fns k) (start f.ns ds) μ) (fnK μ.length Q E) NoE) : Wp (callN fns (k + 1) i ds μ) Q E := by
  show Wp ((match fns[i]? with
    | some f => runFn f (callN fns k) ds
    | none => stk) μ) Q E
  rw [hf]
  show Wp (runFn f (callN fns k) ds μ) Q E
  unfold runFn
  rw [if_pos hn]
  cases e : f.den (callN fns k) (start f.ns ds) μ with
  | err c fs μ' => rw [e] at h; exact h.elim
  | stuck => rw [e] at h; exact h.elim
  | ok fl μ' =>
    rw [e] at h
    cases fl with
    | nx σ => 
      show Wp (tidy μ.length .non μ') Q E
      unfold tidy
      split
      · rename_i z; exact h.1 z.1 z.2
      · rename_i z; exact h.2 z
    | rt d =>
      show Wp (tidy μ.length d μ') Q E
      unfold tidy
      split
      · rename_i z; exact h.1 z.1 z.2
      · rename_i z; exact h.2 z
    | ex c fs σ =>
      show Wp (tidyE μ.length c fs μ') Q E
      unfold tidyE
      split
      · rename_i z; exact h.1 z.1 z.2
      · rename_i z; exact h.2 z
    | bk σ => exact h.elim
    | ct σ => exact h.elim
/-- nothing was made -/
theorem retQ_same {d : D} {μ : Store} {Q : D → Store → Prop} (q : Q d μ) : retQ μ.length d μ Q := ⟨fun _ _ => by rw [List.take_length]; exact q, fun _ => q⟩
theorem retE_same {c : Nat} {fs : List D} {μ : Store} {E : Nat → List D → Store → Prop} (q : E c fs μ) : retE μ.length c fs μ E := ⟨fun _ _ => by rw [List.take_length]; exact q, fun _ => q⟩
theorem retQ_len {d : D} {n : Nat} {μ : Store} {Q : D → Store → Prop} (hn : μ.length = n) (q : Q d μ) : retQ n d μ Q := by subst hn; exact retQ_same q
theorem retE_len {c : Nat} {fs : List D} {n : Nat} {μ : Store} {E : Nat → List D → Store → Prop} (hn : μ.length = n) (q : E c fs μ) : retE n c fs μ E := by subst hn; exact retE_same q
/-- what was made is forgotten -/
theorem retQ_cut {d : D} {n : Nat} {μ μ' : Store} {Q : D → Store → Prop} (hd : d.lt n = true) (e : μ'.take n = μ) (hw : μ.all (Ob.lt n) = true) (q : Q d μ) : retQ n d μ' Q := by
  subst e
  exact ⟨fun _ _ => q, fun z => absurd ⟨hd, hw⟩ z⟩
theorem retE_cut {c : Nat} {fs : List D} {n : Nat} {μ μ' : Store} {E : Nat → List D → Store → Prop} (hd : lts n fs = true) (e : μ'.take n = μ) (hw : μ.all (Ob.lt n) = true) (q : E c fs μ) : retE n c fs μ' E := by
  subst e
  exact ⟨fun _ _ => q, fun z => absurd ⟨hd, hw⟩ z⟩
theorem lts_ints (n : Nat) (ns : List Int) : lts n (ns.map .int) = true := by
  induction ns with
  | nil => rfl
  | cons x xs ih => simp [lts, D.lt, ih]
/-! ### ends of statements -/
section
variable {u : DenS} {Q : Fl → Store → Prop} {QD : D → Store → Prop} {E : Nat → List D → Store → Prop} {I : Env → Store → Prop} {σ : Env} {d : D} {μ : Store} {c n : Nat} {fs : List D}
theorem sq_nx (q : Wp (u σ μ) Q NoE) : sqK u Q (.nx σ) μ := q
theorem sq_rt (q : Q (.rt d) μ) : sqK u Q (.rt d) μ := q
theorem sq_bk (q : Q (.bk σ) μ) : sqK u Q (.bk σ) μ := q
theorem sq_ct (q : Q (.ct σ) μ) : sqK u Q (.ct σ) μ := q
theorem sq_ex (q : Q (.ex c fs σ) μ) : sqK u Q (.ex c fs σ) μ := q
theorem tk_nx (q : I σ μ) : turnK I Q (.nx σ) μ := q
theorem tk_ct (q : I σ μ) : turnK I Q (.ct σ) μ := q
theorem tk_bk (q : Q (.nx σ) μ) : turnK I Q (.bk σ) μ := q
theorem tk_rt (q : Q (.rt d) μ) : turnK I Q (.rt d) μ := q
theorem tk_ex (q : Q (.ex c fs σ) μ) : turnK I Q (.ex c fs σ) μ := q
theorem fk_nx (q : retQ n .non μ QD) : fnK n QD E (.nx σ) μ := q
theorem fk_rt (q : retQ n d μ QD) : fnK n QD E (.rt d) μ := q
theorem fk_ex (q : retE n c fs μ E) : fnK n QD E (.ex c fs σ) μ := q
theorem ek (q : Q (.ex c fs σ) μ) : exK Q σ c fs μ := q
theorem blk {k : Bool} {P : Bool → Prop} (q : P k) : blK (.bl k) P := q
theorem intk {k : Int} {P : Int → Prop} (q : P k) : intK (.int k) P := q
theorem try_rt {sup : Nat → Nat → Option Bool} {cn i : Nat} {h : DenS} (q : Q (.rt d) μ) : tryK sup cn i h Q (.rt d) μ := q
theorem try_nx {sup : Nat → Nat → Option Bool} {cn i : Nat} {h : DenS} (q : Q (.nx σ) μ) : tryK sup cn i h Q (.nx σ) μ := q
def catQ (Q : Fl → Store → Prop) : Fl → Store → Prop := fun f μ' => match f with
      | .rt d => Q (.rt d) μ'
      | _ => False
theorem cat_rt (q : Q (.rt d) μ) : catQ Q (.rt d) μ := q
theorem try_ex {sup : Nat → Nat → Option Bool} {cn i : Nat} {h : DenS} (e : sup c cn = some true) (q : Wp (h (σ.set i (some (.exn c fs))) μ) (catQ Q) NoE) : tryK sup cn i h Q (.ex c fs σ) μ := by
  show (match sup c cn with
    | some true => Wp (h (σ.set i (some (.exn c fs))) μ) (fun f μ' => match f with
      | .rt d => Q (.rt d) μ'
      | _ => False) NoE
    | some false => Q (.ex c fs σ) μ
    | none => False)
  rw [e]
  exact q
theorem lenK {xs : List D} {P : Prop} (h : Nat.ble xs.length 16777216 = true) (q : P) : xs.length ≤ lineN ∧ P := ⟨Nat.le_of_ble_eq_true h, q⟩
theorem w_pow30 (q : QD (.int 1000000000000000000000000000000) μ) : Wp (powD (.int 10) (.int 30) μ) QD E := by
  have e : (10 : Int) ^ (30 : Int).toNat = 1000000000000000000000000000000 := by decide
  refine w_pow ⟨by decide, by decide, by decide⟩ ?_
  rw [e]
  exact q
theorem w_pow18 (q : QD (.int 1000000000000000000) μ) : Wp (powD (.int 10) (.int 18) μ) QD E := by
  have e : (10 : Int) ^ (18 : Int).toNat = 1000000000000000000 := by decide
  refine w_pow ⟨by decide, by decide, by decide⟩ ?_
  rw [e]
  exact q
theorem w_isE1 {sup : Nat → Nat → Option Bool} {i : Nat} {t : Ty} {r : Bool} (h : σ[i]? = some (some (.exn c fs))) (e : isE sup c t = some r) (q : QD (.bl r) μ) : Wp (cIsE1 sup i t σ μ) QD E := by
  unfold cIsE1
  rw [h]
  exact w_bnd (w_opt e q)
end
/-! ### parts of lists -/
theorem cutL_to {α : Type} {xs : List α} {i : Int} (h : 0 ≤ i) : cutL xs none (some i) = xs.take i.toNat := by
  unfold cutL HT.sIx
  dsimp only
  rw [if_neg (by omega), List.drop_zero, Nat.sub_zero]
  by_cases g : i.toNat ≤ xs.length
  · rw [Nat.min_eq_left g]
  · rw [Nat.min_eq_right (by omega), List.take_of_length_le (Nat.le_refl _), List.take_of_length_le (by omega)]
theorem cutL_from {α : Type} {xs : List α} {i : Int} (h : 0 ≤ i) : cutL xs (some i) none = xs.drop i.toNat := by
  unfold cutL HT.sIx
  dsimp only
  rw [if_neg (by omega)]
  by_cases g : i.toNat ≤ xs.length
  · rw [Nat.min_eq_left g, List.take_of_length_le (by rw [List.length_drop]; exact Nat.le_refl _)]
  · rw [Nat.min_eq_right (by omega), List.drop_of_length_le (Nat.le_refl _), List.drop_of_length_le (by omega), List.take_nil]
theorem cutL_map {α β : Type} (f : α → β) {xs : List α} {l r : Option Int} : cutL (xs.map f) l r = (cutL xs l r).map f := by
  unfold cutL
  rw [List.length_map, List.map_take, List.map_drop]
theorem cutL_len {α : Type} {xs : List α} {l r : Option Int} : (cutL xs l r).length ≤ xs.length := by
  unfold cutL
  rw [List.length_take, List.length_drop]
  omega
theorem cutL_mem {α : Type} {xs : List α} {l r : Option Int} {x : α} (h : x ∈ cutL xs l r) : x ∈ xs := List.mem_of_mem_drop (List.mem_of_mem_take h)
theorem atI_of {α : Type} {xs : List α} {i : Int} (h0 : 0 ≤ i) (h1 : i < xs.length) : L2.atI xs i = xs[i.toNat]? := by
  unfold L2.atI L2.ixN
  rw [if_pos h0, if_pos h1]
  rfl
theorem log_ok {n : Int} (h0 : 0 ≤ n) (h : n ≤ 1000000000000000000000000000000000000000000000000000000000000) : n.natAbs.log2 < 9000 := by
  by_cases e : n.natAbs = 0
  · rw [e]; decide
  · rw [Nat.log2_lt e]
    exact Nat.lt_of_le_of_lt (show n.natAbs ≤ 1000000000000000000000000000000000000000000000000000000000000 by omega) (Nat.lt_of_lt_of_le (show 1000000000000000000000000000000000000000000000000000000000000 < 2 ^ 200 by decide) (Nat.pow_le_pow_right (by decide) (by decide)))
theorem set_same {μ : Store} {p : Nat} {o : Ob} (h : μ[p]? = some o) : μ.set p o = μ := by
  obtain ⟨hl, e⟩ := List.getElem?_eq_some_iff.mp h
  subst e
  exact List.set_getElem_self hl
theorem set_get {μ : Store} {p : Nat} {o o' : Ob} (h : μ[p]? = some o) : (μ.set p o')[p]? = some o' := by
  obtain ⟨hl, _⟩ := List.getElem?_eq_some_iff.mp h
  exact List.getElem?_set_self hl
end Mini

set_option Elab.async false
set_option linter.all false
set_option maxRecDepth 100000
set_option maxHeartbeats 0
namespace K93
open PySem PySem.Spec L2 Mini
abbrev Pg : Program := PySem.Challenge.pw_splitwhole_k93_whole_clamps
def top (i : Nat) : Stmt := Pg.main.body.getD i (.Pass ⟨0, 0, 0, 0⟩)
/-- which error class lies under which -/
def supT : List (List Bool) := [[true, false, false], [true, true, false], [true, false, true]]
def excT : List (Str × List Str × Bool) := [("SplitError", [], true), ("TooMany", ["limit"], false), ("BadNumber", [], true)]
def conT : List (Str × D) := [("MOST_MOVES", .int 64), ("GREATEST", .int 1000000000000000000000000000000), ("SPOILERS", .tup [.tup [.int 0, .int 4, .tup [.int (-1), .int 2, .int (-1)], .tup [.int 1, .int 1, .int (-1)], .int 1], .tup [.int 0, .int 4, .tup [], .tup [.int (-1), .int 1], .int 0], .tup [.int 0, .int 4, .tup [], .tup [.int 1, .int (-1)], .int 4]])]
/-! ### what the defs mean -/
def dis_integer : Orc → DenS := fun C => (sSeq (sRet (cAnd (cIs1 (cVar 0) .int) (cNot (cIs1 (cVar 0) .bool)))) sNil)
def fis_integer : Fn := ⟨1, 1, dis_integer⟩
def mis_integer : DefM := ⟨⟨("is_integer", none), "is_integer", "is_integer", defArgs (top 5), defBody (top 5), defScope (top 5), [], []⟩, ["value"], ["value"]⟩
def dis_within : Orc → DenS := fun C => (sSeq (sRet (cAnd (cCall C 0 (aCons (cVar 0) aNil)) (cChn .le .le (cVar 1) (cVar 0) (cVar 2)))) sNil)
def fis_within : Fn := ⟨3, 3, dis_within⟩
def mis_within : DefM := ⟨⟨("is_within", none), "is_within", "is_within", defArgs (top 6), defBody (top 6), defScope (top 6), [], []⟩, ["value", "low", "high"], ["value", "low", "high"]⟩
def dis_numbers : Orc → DenS := fun C => (sSeq (sRet (cAnd (cIs1 (cVar 0) .tup) (cBL bAllI (lcI [3] (iV (cVar 0)) (gN 3) tYes (cCall C 1 (aCons (cVar 3) (aCons (cVar 1) (aCons (cVar 2) aNil)))))))) sNil)
def fis_numbers : Fn := ⟨3, 4, dis_numbers⟩
def mis_numbers : DefM := ⟨⟨("is_numbers", none), "is_numbers", "is_numbers", defArgs (top 7), defBody (top 7), defScope (top 7), [], []⟩, ["values", "low", "high", "value"], ["values", "low", "high"]⟩
def dcheck_moves : Orc → DenS := fun C => (sSeq (sIf (tOr (tNot (tVal (cCall C 2 (aCons (cVar 0) (aCons (c1 negD (cK (.int 1000000000000000000000000000000))) (aCons (cK (.int 1000000000000000000000000000000)) aNil)))))) (tCmp .gt (cB bLen (aCons (cVar 0) aNil)) (cK (.int 64)))) (sSeq (sRaise 2) sNil) sNil) sNil)
def fcheck_moves : Fn := ⟨1, 1, dcheck_moves⟩
def mcheck_moves : DefM := ⟨⟨("check_moves", none), "check_moves", "check_moves", defArgs (top 11), defBody (top 11), defScope (top 11), [], []⟩, ["moves"], ["moves"]⟩
def dcheck_bounds : Orc → DenS := fun C => (sSeq (sIf (tOr (tNot (tVal (cCall C 1 (aCons (cVar 0) (aCons (c1 negD (cK (.int 1000000000000000000000000000000))) (aCons (cK (.int 1000000000000000000000000000000)) aNil)))))) (tNot (tVal (cCall C 1 (aCons (cVar 1) (aCons (cVar 0) (aCons (cK (.int 1000000000000000000000000000000)) aNil))))))) (sSeq (sRaise 2) sNil) sNil) sNil)
def fcheck_bounds : Fn := ⟨2, 2, dcheck_bounds⟩
def mcheck_bounds : DefM := ⟨⟨("check_bounds", none), "check_bounds", "check_bounds", defArgs (top 12), defBody (top 12), defScope (top 12), [], []⟩, ["low", "high"], ["low", "high"]⟩
def dcheck_start : Orc → DenS := fun C => (sSeq (sIf (tNot (tVal (cCall C 1 (aCons (cVar 2) (aCons (cVar 0) (aCons (cVar 1) aNil)))))) (sSeq (sRaise 2) sNil) sNil) sNil)
def fcheck_start : Fn := ⟨3, 3, dcheck_start⟩
def mcheck_start : DefM := ⟨⟨("check_start", none), "check_start", "check_start", defArgs (top 13), defBody (top 13), defScope (top 13), [], []⟩, ["low", "high", "start"], ["low", "high", "start"]⟩
def dmiddle_of : Orc → DenS := fun C => (sSeq (sRet (cB bMax (aCons (cVar 0) (aCons (cB bMin (aCons (cVar 2) (aCons (cVar 1) aNil))) aNil)))) sNil)
def fmiddle_of : Fn := ⟨3, 3, dmiddle_of⟩
def mmiddle_of : DefM := ⟨⟨("middle_of", none), "middle_of", "middle_of", defArgs (top 14), defBody (top 14), defScope (top 14), [], []⟩, ["least", "value", "most"], ["least", "value", "most"]⟩
def dclamped : Orc → DenS := fun C => (sSeq (sExp (cCall C 4 (aCons (cVar 0) (aCons (cVar 1) aNil)))) (sSeq (sExp (cCall C 5 (aCons (cVar 0) (aCons (cVar 1) (aCons (cVar 2) aNil))))) (sSeq (sExp (cCall C 3 (aCons (cVar 3) aNil))) (sSeq (sFor (iV (cVar 3)) (gN 4) (sSeq (sAsg (gN 2) (cCall C 6 (aCons (cVar 0) (aCons (c2 addD (cVar 2) (cVar 4)) (aCons (cVar 1) aNil))))) sNil)) (sSeq (sRet (cVar 2)) sNil)))))
def fclamped : Fn := ⟨4, 5, dclamped⟩
def mclamped : DefM := ⟨⟨("clamped", none), "clamped", "clamped", defArgs (top 15), defBody (top 15), defScope (top 15), [], []⟩, ["low", "high", "start", "moves", "move"], ["low", "high", "start", "moves"]⟩
def dmade_clamp : Orc → DenS := fun C => (sSeq (sRet (cTup (aCons (cIf (tCmp .eq (cVar 1) (cVar 2)) (cK (.int 0)) (cVar 0)) (aCons (cVar 1) (aCons (cVar 2) aNil))))) sNil)
def fmade_clamp : Fn := ⟨3, 3, dmade_clamp⟩
def mmade_clamp : DefM := ⟨⟨("made_clamp", none), "made_clamp", "made_clamp", defArgs (top 16), defBody (top 16), defScope (top 16), [], []⟩, ["add", "least", "most"], ["add", "least", "most"]⟩
def dclamp : Orc → DenS := fun C => (sSeq (sExp (cCall C 4 (aCons (cVar 0) (aCons (cVar 1) aNil)))) (sSeq (sExp (cCall C 3 (aCons (cVar 2) aNil))) (sSeq (sAsg (gN 3) (cCall C 8 (aCons (cK (.int 0)) (aCons (cVar 0) (aCons (cVar 1) aNil))))) (sSeq (sFor (iV (cVar 2)) (gN 4) (sSeq (sAsg (gN 5) (cCall C 8 (aCons (cVar 4) (aCons (cCall C 6 (aCons (cVar 0) (aCons (c2 addD (cVar 0) (cVar 4)) (aCons (cVar 1) aNil)))) (aCons (cCall C 6 (aCons (cVar 0) (aCons (c2 addD (cVar 1) (cVar 4)) (aCons (cVar 1) aNil)))) aNil))))) (sSeq (sAsg (gN 3) (cCall C 11 (aCons (cVar 3) (aCons (cVar 5) aNil)))) sNil))) (sSeq (sRet (cVar 3)) sNil)))))
def fclamp : Fn := ⟨3, 6, dclamp⟩
def mclamp : DefM := ⟨⟨("clamp", none), "clamp", "clamp", defArgs (top 17), defBody (top 17), defScope (top 17), [], []⟩, ["low", "high", "moves", "whole", "move", "single"], ["low", "high", "moves"]⟩
def dapply_clamp : Orc → DenS := fun C => (sSeq (sRet (cCall C 6 (aCons (c2 ixD (cVar 0) (cK (.int 1))) (aCons (c2 addD (cVar 1) (c2 ixD (cVar 0) (cK (.int 0)))) (aCons (c2 ixD (cVar 0) (cK (.int 2))) aNil))))) sNil)
def fapply_clamp : Fn := ⟨2, 2, dapply_clamp⟩
def mapply_clamp : DefM := ⟨⟨("apply_clamp", none), "apply_clamp", "apply_clamp", defArgs (top 18), defBody (top 18), defScope (top 18), [], []⟩, ["moved", "start"], ["moved", "start"]⟩
def djoin_clamps : Orc → DenS := fun C => (sSeq (sRet (cCall C 8 (aCons (c2 addD (c2 ixD (cVar 0) (cK (.int 0))) (c2 ixD (cVar 1) (cK (.int 0)))) (aCons (cCall C 10 (aCons (cVar 1) (aCons (c2 ixD (cVar 0) (cK (.int 1))) aNil))) (aCons (cCall C 10 (aCons (cVar 1) (aCons (c2 ixD (cVar 0) (cK (.int 2))) aNil))) aNil))))) sNil)
def fjoin_clamps : Fn := ⟨2, 2, djoin_clamps⟩
def mjoin_clamps : DefM := ⟨⟨("join_clamps", none), "join_clamps", "join_clamps", defArgs (top 19), defBody (top 19), defScope (top 19), [], []⟩, ["one", "other"], ["one", "other"]⟩
def dclamp_spoiler : Orc → DenS := fun C => (sSeq (sIf (tNot (tVal (cCall C 1 (aCons (cVar 0) (aCons (cK (.int 0)) (aCons (cK (.int 2)) aNil)))))) (sSeq (sRaise 2) sNil) sNil) (sSeq (sRet (c2 ixD (cK (.tup [.tup [.int 0, .int 4, .tup [.int (-1), .int 2, .int (-1)], .tup [.int 1, .int 1, .int (-1)], .int 1], .tup [.int 0, .int 4, .tup [], .tup [.int (-1), .int 1], .int 0], .tup [.int 0, .int 4, .tup [], .tup [.int 1, .int (-1)], .int 4]])) (cVar 0))) sNil))
def fclamp_spoiler : Fn := ⟨1, 1, dclamp_spoiler⟩
def mclamp_spoiler : DefM := ⟨⟨("clamp_spoiler", none), "clamp_spoiler", "clamp_spoiler", defArgs (top 21), defBody (top 21), defScope (top 21), [], []⟩, ["which"], ["which"]⟩
def d_law_source : Orc → DenS := fun C => (sSeq (sAsg (gN 2) (cLc [3] (iV (cSl (cVar 0) pNo (pSome (cK (.int 63))))) (gN 3) tYes (cB bInt (aCons (cVar 3) aNil)))) (sSeq (sIf (tCmp .lt (cVar 1) (cB bLen (aCons (cVar 2) aNil))) (sSeq (sAsg (gN 3) (c2 ixD (cVar 2) (cVar 1))) sNil) (sSeq (sAsg (gN 3) (c2 addD (c2 mulD (c2 addD (c2 addD (cBL bSumI (lcI [5] (iV (cVar 2)) (gN 5) tYes (c2 modD (cB bInt (aCons (cVar 5) aNil)) (cK (.int 1000003))))) (cB bLen (aCons (cVar 2) aNil))) (cK (.int 1))) (cK (.int 7919))) (c2 mulD (cVar 1) (cK (.int 104729))))) sNil)) (sSeq (sAsg (gN 4) (cIf (tCmp .ge (cB bAbs (aCons (cVar 3) aNil)) (c2 powD (cK (.int 10)) (cK (.int 18)))) (cB bAbs (aCons (cVar 3) aNil)) (cK (.int 0)))) (sSeq (sRet (cLst (aCons (cVar 4) (aCons (c2 modD (cB bInt (aCons (cVar 3) aNil)) (cK (.int 2147483629))) (aCons (cK (.int 0)) aNil))))) sNil))))
def f_law_source : Fn := ⟨2, 6, d_law_source⟩
def m_law_source : DefM := ⟨⟨("_law_source", none), "_law_source", "_law_source", defArgs (top 23), defBody (top 23), defScope (top 23), [], []⟩, ["script", "place", "kept", "cell", "left", "one"], ["script", "place"]⟩
def d_law_draw : Orc → DenS := fun C => (sSeq (sIf (tCmp .gt (c2 ixD (cVar 0) (cK (.int 0))) (cK (.int 0))) (sSeq (sAsg (gN 2) (c2 modD (cB bInt (aCons (c2 ixD (cVar 0) (cK (.int 0))) aNil)) (cVar 1))) (sSeq (sAsg (gI (cVar 0) (cK (.int 0))) (c2 divD (c2 ixD (cVar 0) (cK (.int 0))) (cVar 1))) (sSeq (sRet (cVar 2)) sNil))) sNil) (sSeq (sAsg (gI (cVar 0) (cK (.int 2))) (c2 addD (c2 ixD (cVar 0) (cK (.int 2))) (cK (.int 1)))) (sSeq (sAsg (gN 3) (c2 modD (cB bInt (aCons (c2 addD (c2 addD (c2 mulD (c2 ixD (cVar 0) (cK (.int 1))) (cK (.int 48271))) (c2 mulD (c2 ixD (cVar 0) (cK (.int 2))) (cK (.int 69621)))) (cK (.int 12345))) aNil)) (cK (.int 2147483647)))) (sSeq (sAsg (gN 4) (c2 modD (cB bInt (aCons (c2 addD (c2 addD (c2 mulD (cVar 3) (cK (.int 40692))) (c2 mulD (c2 divD (cVar 3) (cK (.int 7))) (c2 ixD (cVar 0) (cK (.int 2))))) (cK (.int 1013904223))) aNil)) (cK (.int 2147483399)))) (sSeq (sRet (c2 modD (cB bInt (aCons (c2 divD (cVar 4) (cK (.int 13))) aNil)) (cVar 1))) sNil)))))
def f_law_draw : Fn := ⟨2, 5, d_law_draw⟩
def m_law_draw : DefM := ⟨⟨("_law_draw", none), "_law_draw", "_law_draw", defArgs (top 24), defBody (top 24), defScope (top 24), [], []⟩, ["source", "many", "digit", "first", "second"], ["source", "many"]⟩
def d_law_pick : Orc → DenS := fun C => (sSeq (sRet (c2 ixD (cVar 1) (cCall C 14 (aCons (cVar 0) (aCons (cB bLen (aCons (cVar 1) aNil)) aNil))))) sNil)
def f_law_pick : Fn := ⟨2, 2, d_law_pick⟩
def m_law_pick : DefM := ⟨⟨("_law_pick", none), "_law_pick", "_law_pick", defArgs (top 25), defBody (top 25), defScope (top 25), [], []⟩, ["source", "items"], ["source", "items"]⟩
def d_law_bounds : Orc → DenS := fun C => (sSeq (sAsg (gN 1) (cCall C 14 (aCons (cVar 0) (aCons (cK (.int 8)) aNil)))) (sSeq (sIf (tCmp .lt (cVar 1) (cK (.int 3))) (sSeq (sAsg (gN 2) (c2 subD (cCall C 14 (aCons (cVar 0) (aCons (cK (.int 13)) aNil))) (cK (.int 6)))) (sSeq (sRet (cTup (aCons (cVar 2) (aCons (c2 addD (cVar 2) (cCall C 14 (aCons (cVar 0) (aCons (cK (.int 10)) aNil)))) aNil)))) sNil)) sNil) (sSeq (sIf (tCmp .eq (cVar 1) (cK (.int 3))) (sSeq (sAsg (gN 2) (c2 subD (cCall C 14 (aCons (cVar 0) (aCons (cK (.int 41)) aNil))) (cK (.int 20)))) (sSeq (sRet (cTup (aCons (cVar 2) (aCons (cVar 2) aNil)))) sNil)) sNil) (sSeq (sIf (tCmp .eq (cVar 1) (cK (.int 4))) (sSeq (sAsg (gN 2) (c2 subD (cCall C 14 (aCons (cVar 0) (aCons (cK (.int 2001)) aNil))) (cK (.int 1000)))) (sSeq (sRet (cTup (aCons (cVar 2) (aCons (c2 addD (cVar 2) (cCall C 14 (aCons (cVar 0) (aCons (cK (.int 1000000)) aNil)))) aNil)))) sNil)) sNil) (sSeq (sIf (tCmp .eq (cVar 1) (cK (.int 5))) (sSeq (sRet (cTup (aCons (c1 negD (c2 powD (cK (.int 10)) (cK (.int 30)))) (aCons (c2 powD (cK (.int 10)) (cK (.int 30))) aNil)))) sNil) sNil) (sSeq (sIf (tCmp .eq (cVar 1) (cK (.int 6))) (sSeq (sAsg (gN 3) (cCall C 14 (aCons (cVar 0) (aCons (cK (.int 9)) aNil)))) (sSeq (sAsg (gN 4) (c2 addD (cVar 3) (cCall C 14 (aCons (cVar 0) (aCons (cK (.int 9)) aNil))))) (sSeq (sIf (tCmp .eq (cCall C 14 (aCons (cVar 0) (aCons (cK (.int 2)) aNil))) (cK (.int 0))) (sSeq (sRet (cTup (aCons (c2 subD (cVar 3) (c2 powD (cK (.int 10)) (cK (.int 30)))) (aCons (c2 subD (cVar 4) (c2 powD (cK (.int 10)) (cK (.int 30)))) aNil)))) sNil) sNil) (sSeq (sRet (cTup (aCons (c2 subD (c2 powD (cK (.int 10)) (cK (.int 30))) (cVar 4)) (aCons (c2 subD (c2 powD (cK (.int 10)) (cK (.int 30))) (cVar 3)) aNil)))) sNil)))) sNil) (sSeq (sAsg (gN 5) (c2 subD (cCall C 14 (aCons (cVar 0) (aCons (c2 addD (c2 mulD (cK (.int 2)) (c2 powD (cK (.int 10)) (cK (.int 30)))) (cK (.int 1))) aNil))) (c2 powD (cK (.int 10)) (cK (.int 30))))) (sSeq (sAsg (gN 6) (c2 subD (c2 powD (cK (.int 10)) (cK (.int 30))) (cCall C 14 (aCons (cVar 0) (aCons (c2 addD (c2 mulD (cK (.int 2)) (c2 powD (cK (.int 10)) (cK (.int 30)))) (cK (.int 1))) aNil))))) (sSeq (sRet (cTup (aCons (cB bMin (aCons (cVar 5) (aCons (cVar 6) aNil))) (aCons (cB bMax (aCons (cVar 5) (aCons (cVar 6) aNil))) aNil)))) sNil)))))))))
def f_law_bounds : Fn := ⟨1, 7, d_law_bounds⟩
def m_law_bounds : DefM := ⟨⟨("_law_bounds", none), "_law_bounds", "_law_bounds", defArgs (top 26), defBody (top 26), defScope (top 26), [], []⟩, ["source", "kind", "low", "near", "far", "first", "second"], ["source"]⟩
def d_law_move : Orc → DenS := fun C => (sSeq (sAsg (gN 2) (cCall C 14 (aCons (cVar 0) (aCons (cK (.int 8)) aNil)))) (sSeq (sIf (tCmp .lt (cVar 2) (cK (.int 3))) (sSeq (sRet (c2 subD (cCall C 14 (aCons (cVar 0) (aCons (cK (.int 7)) aNil))) (cK (.int 3)))) sNil) sNil) (sSeq (sIf (tCmp .lt (cVar 2) (cK (.int 6))) (sSeq (sAsg (gN 3) (c2 subD (c2 addD (c2 divD (cVar 1) (c2 addD (cK (.int 1)) (cCall C 14 (aCons (cVar 0) (aCons (cK (.int 3)) aNil))))) (cCall C 14 (aCons (cVar 0) (aCons (cK (.int 3)) aNil)))) (cK (.int 1)))) sNil) (sSeq (sIf (tCmp .eq (cVar 2) (cK (.int 6))) (sSeq (sAsg (gN 3) (c2 subD (c2 powD (cK (.int 10)) (cK (.int 30))) (cCall C 14 (aCons (cVar 0) (aCons (cK (.int 2)) aNil))))) sNil) (sSeq (sAsg (gN 3) (cCall C 14 (aCons (cVar 0) (aCons (c2 powD (cK (.int 10)) (cK (.int 30))) aNil)))) sNil)) sNil)) (sSeq (sAsg (gN 3) (cB bMin (aCons (cVar 3) (aCons (c2 powD (cK (.int 10)) (cK (.int 30))) aNil)))) (sSeq (sRet (cIf (tCmp .eq (cCall C 14 (aCons (cVar 0) (aCons (cK (.int 2)) aNil))) (cK (.int 0))) (cVar 3) (c1 negD (cVar 3)))) sNil)))))
def f_law_move : Fn := ⟨2, 4, d_law_move⟩
def m_law_move : DefM := ⟨⟨("_law_move", none), "_law_move", "_law_move", defArgs (top 27), defBody (top 27), defScope (top 27), [], []⟩, ["source", "wide", "kind", "size"], ["source", "wide"]⟩
def d_law_moves : Orc → DenS := fun C => (sSeq (sIf (tAnd (tCmp .eq (cCall C 14 (aCons (cVar 0) (aCons (cK (.int 4)) aNil))) (cK (.int 0))) (tCmp .gt (cB bLen (aCons (cVar 1) aNil)) (cK (.int 1)))) (sSeq (sAsg (gN 3) (cB bMin (aCons (cCall C 15 (aCons (cVar 0) (aCons (cTup (aCons (cK (.int 2)) (aCons (c2 addD (cVar 2) (cK (.int 1))) (aCons (c2 powD (cK (.int 10)) (cK (.int 30))) aNil)))) aNil))) (aCons (c2 powD (cK (.int 10)) (cK (.int 30))) aNil)))) (sSeq (sRet (cBL newT (lcI [5] (iV (cVar 1)) (gN 5) tYes (c2 subD (c2 modD (cB bInt (aCons (cVar 5) aNil)) (c2 addD (c2 mulD (cK (.int 2)) (cVar 3)) (cK (.int 1)))) (cVar 3))))) sNil)) sNil) (sSeq (sAsg (gN 4) (cCall C 15 (aCons (cVar 0) (aCons (cTup (aCons (cK (.int 2)) (aCons (cK (.int 3)) (aCons (cK (.int 1)) (aCons (cK (.int 4)) (aCons (cK (.int 6)) (aCons (cK (.int 9)) (aCons (cK (.int 0)) (aCons (cK (.int 20)) (aCons (cK (.int 64)) aNil)))))))))) aNil)))) (sSeq (sRet (cBL newT (lcI [6] (iRng1 (cVar 4)) (gN 6) tYes (cCall C 17 (aCons (cVar 0) (aCons (cVar 2) aNil)))))) sNil)))
def f_law_moves : Fn := ⟨3, 7, d_law_moves⟩
def m_law_moves : DefM := ⟨⟨("_law_moves", none), "_law_moves", "_law_moves", defArgs (top 28), defBody (top 28), defScope (top 28), [], []⟩, ["source", "cells", "wide", "most", "many", "cell", "k"], ["source", "cells", "wide"]⟩
def d_law_near : Orc → DenS := fun C => (sSeq (sAsg (gN 3) (cCall C 14 (aCons (cVar 0) (aCons (cK (.int 8)) aNil)))) (sSeq (sAsg (gN 4) (cCall C 14 (aCons (cVar 0) (aCons (c2 addD (cB bLen (aCons (cVar 1) aNil)) (cK (.int 1))) aNil)))) (sSeq (sAsg (gN 5) (cSl (cVar 1) pNo (pSome (cVar 4)))) (sSeq (sAsg (gN 6) (cSl (cVar 1) (pSome (cVar 4)) pNo)) (sSeq (sAsg (gN 7) (c2 addD (cK (.int 1)) (cCall C 14 (aCons (cVar 0) (aCons (cK (.int 3)) aNil))))) (sSeq (sIf (tCmp .eq (cVar 3) (cK (.int 0))) (sSeq (sRet (cSl (c2 addD (c2 addD (cVar 5) (cTup (aCons (cVar 7) (aCons (c1 negD (cVar 7)) aNil)))) (cVar 6)) pNo (pSome (cK (.int 64))))) sNil) sNil) (sSeq (sIf (tCmp .eq (cVar 3) (cK (.int 1))) (sSeq (sRet (cSl (c2 addD (c2 addD (cVar 5) (cTup (aCons (c1 negD (cVar 7)) (aCons (cVar 7) aNil)))) (cVar 6)) pNo (pSome (cK (.int 64))))) sNil) sNil) (sSeq (sIf (tCmp .eq (cVar 3) (cK (.int 2))) (sSeq (sRet (cSl (c2 addD (c2 addD (cVar 5) (cTup (aCons (cK (.int 0)) aNil))) (cVar 6)) pNo (pSome (cK (.int 64))))) sNil) sNil) (sSeq (sIf (tAnd (tCmp .eq (cVar 3) (cK (.int 3))) (tCmp .gt (cB bLen (aCons (cVar 6) aNil)) (cK (.int 1)))) (sSeq (sRet (c2 addD (c2 addD (cVar 5) (cTup (aCons (c2 ixD (cVar 6) (cK (.int 1))) (aCons (c2 ixD (cVar 6) (cK (.int 0))) aNil)))) (cSl (cVar 6) (pSome (cK (.int 2))) pNo))) sNil) sNil) (sSeq (sIf (tAnd (tCmp .eq (cVar 3) (cK (.int 4))) (tCmp .gt (cB bLen (aCons (cVar 6) aNil)) (cK (.int 0)))) (sSeq (sAsg (gN 8) (c2 divD (c2 ixD (cVar 6) (cK (.int 0))) (cK (.int 2)))) (sSeq (sRet (cSl (c2 addD (c2 addD (cVar 5) (cTup (aCons (cVar 8) (aCons (c2 subD (c2 ixD (cVar 6) (cK (.int 0))) (cVar 8)) aNil)))) (cSl (cVar 6) (pSome (cK (.int 1))) pNo)) pNo (pSome (cK (.int 64))))) sNil)) sNil) (sSeq (sIf (tAnd (tCmp .eq (cVar 3) (cK (.int 5))) (tCmp .gt (cB bLen (aCons (cVar 6) aNil)) (cK (.int 0)))) (sSeq (sAsg (gN 9) (cIf (tCmp .lt (c2 ixD (cVar 6) (cK (.int 0))) (cK (.int 0))) (c2 addD (c2 ixD (cVar 6) (cK (.int 0))) (cK (.int 1))) (c2 subD (c2 ixD (cVar 6) (cK (.int 0))) (cK (.int 1))))) (sSeq (sRet (c2 addD (c2 addD (cVar 5) (cTup (aCons (cVar 9) aNil))) (cSl (cVar 6) (pSome (cK (.int 1))) pNo))) sNil)) sNil) (sSeq (sIf (tCmp .eq (cVar 3) (cK (.int 6))) (sSeq (sRet (c1 revD (cVar 1))) sNil) sNil) (sSeq (sRet (cBL newT (lcI [10] (iRng1 (cCall C 14 (aCons (cVar 0) (aCons (cK (.int 6)) aNil)))) (gN 10) tYes (cCall C 17 (aCons (cVar 0) (aCons (cVar 2) aNil)))))) sNil)))))))))))))
def f_law_near : Fn := ⟨3, 11, d_law_near⟩
def m_law_near : DefM := ⟨⟨("_law_near", none), "_law_near", "_law_near", defArgs (top 29), defBody (top 29), defScope (top 29), [], []⟩, ["source", "moves", "wide", "way", "place", "ahead", "behind", "step", "half", "bent", "k"], ["source", "moves", "wide"]⟩
def d_law_held : Orc → DenS := fun C => (sSeq (sAsg (gN 4) (cVar 2)) (sSeq (sFor (iV (cVar 3)) (gN 5) (sSeq (sAsg (gN 4) (c2 addD (cVar 4) (cVar 5))) (sSeq (sIf (tCmp .lt (cVar 4) (cVar 0)) (sSeq (sAsg (gN 4) (cVar 0)) sNil) sNil) (sSeq (sIf (tCmp .gt (cVar 4) (cVar 1)) (sSeq (sAsg (gN 4) (cVar 1)) sNil) sNil) sNil)))) (sSeq (sRet (cVar 4)) sNil)))
def f_law_held : Fn := ⟨4, 6, d_law_held⟩
def m_law_held : DefM := ⟨⟨("_law_held", none), "_law_held", "_law_held", defArgs (top 30), defBody (top 30), defScope (top 30), [], []⟩, ["low", "high", "start", "moves", "stock", "move"], ["low", "high", "start", "moves"]⟩
def d_law_triple : Orc → DenS := fun C => (sSeq (sAsg (gN 3) (cCall C 20 (aCons (cVar 0) (aCons (cVar 1) (aCons (cVar 0) (aCons (cVar 2) aNil)))))) (sSeq (sAsg (gN 4) (cCall C 20 (aCons (cVar 0) (aCons (cVar 1) (aCons (cVar 1) (aCons (cVar 2) aNil)))))) (sSeq (sRet (cTup (aCons (cIf (tCmp .eq (cVar 3) (cVar 4)) (cK (.int 0)) (cB bSum (aCons (cVar 2) aNil))) (aCons (cVar 3) (aCons (cVar 4) aNil))))) sNil)))
def f_law_triple : Fn := ⟨3, 5, d_law_triple⟩
def m_law_triple : DefM := ⟨⟨("_law_triple", none), "_law_triple", "_law_triple", defArgs (top 31), defBody (top 31), defScope (top 31), [], []⟩, ["low", "high", "moves", "least", "most"], ["low", "high", "moves"]⟩
def d_law_starts : Orc → DenS := fun C => (sSeq (sIf (tCmp .le (c2 subD (cVar 2) (cVar 1)) (cK (.int 12))) (sSeq (sRet (cLR2 (cVar 1) (c2 addD (cVar 2) (cK (.int 1))))) sNil) sNil) (sSeq (sAsg (gN 4) (cLst (aCons (cVar 1) (aCons (c2 addD (cVar 1) (cK (.int 1))) (aCons (c2 subD (cVar 2) (cK (.int 1))) (aCons (cVar 2) (aCons (c2 divD (c2 addD (cVar 1) (cVar 2)) (cK (.int 2))) aNil))))))) (sSeq (sFor (iV (cVar 3)) (gT 3 (gsCons (gN 5) (gsCons (gN 6) (gsCons (gN 7) gsNil)))) (sSeq (sFor (iV (cTup (aCons (c2 subD (cVar 6) (cVar 5)) (aCons (c2 subD (cVar 7) (cVar 5)) aNil)))) (gN 8) (sSeq (sFor (iV (cTup (aCons (c2 subD (cVar 8) (cK (.int 1))) (aCons (cVar 8) (aCons (c2 addD (cVar 8) (cK (.int 1))) aNil))))) (gN 9) (sSeq (sIf (tAnd (tCmp .le (cVar 1) (cVar 9)) (tCmp .le (cVar 9) (cVar 2))) (sSeq (sExp (cM isLst mAppend (cVar 4) (aCons (cVar 9) aNil))) sNil) sNil) sNil)) sNil)) sNil)) (sSeq (sFor (iRng1 (cK (.int 3))) (gN 10) (sSeq (sExp (cM isLst mAppend (cVar 4) (aCons (c2 addD (cVar 1) (cCall C 14 (aCons (cVar 0) (aCons (c2 addD (c2 subD (cVar 2) (cVar 1)) (cK (.int 1))) aNil)))) aNil))) sNil)) (sSeq (sRet (cVar 4)) sNil)))))
def f_law_starts : Fn := ⟨4, 11, d_law_starts⟩
def m_law_starts : DefM := ⟨⟨("_law_starts", none), "_law_starts", "_law_starts", defArgs (top 32), defBody (top 32), defScope (top 32), [], []⟩, ["source", "low", "high", "triples", "starts", "add", "least", "most", "edge", "start", "k"], ["source", "low", "high", "triples"]⟩
def d_law_is_integer : Orc → DenS := fun C => (sSeq (sRet (cAnd (cIs1 (cVar 0) .int) (cNot (cIs1 (cVar 0) .bool)))) sNil)
def f_law_is_integer : Fn := ⟨1, 1, d_law_is_integer⟩
def m_law_is_integer : DefM := ⟨⟨("_law_is_integer", none), "_law_is_integer", "_law_is_integer", defArgs (top 33), defBody (top 33), defScope (top 33), [], []⟩, ["thing"], ["thing"]⟩
def d_law_is_triple : Orc → DenS := fun C => (sSeq (sIf (tOr (tNot (tVal (cIs1 (cVar 0) .tup))) (tCmp .ne (cB bLen (aCons (cVar 0) aNil)) (cK (.int 3)))) (sSeq (sRet (cK (.bl false))) sNil) sNil) (sSeq (sRet (cAnd (cBL bAllI (lcI [2] (iV (cVar 0)) (gN 2) tYes (cCall C 23 (aCons (cVar 2) aNil)))) (cCmp .eq (cVar 0) (cVar 1)))) sNil))
def f_law_is_triple : Fn := ⟨2, 3, d_law_is_triple⟩
def m_law_is_triple : DefM := ⟨⟨("_law_is_triple", none), "_law_is_triple", "_law_is_triple", defArgs (top 34), defBody (top 34), defScope (top 34), [], []⟩, ["told", "due", "thing"], ["told", "due"]⟩
def d_law_every_start : Orc → DenS := fun C => (sSeq (sAsg (gN 4) (cCall C 9 (aCons (cVar 0) (aCons (cVar 1) (aCons (cVar 2) aNil))))) (sSeq (sIf (tNot (tVal (cCall C 24 (aCons (cVar 4) (aCons (cCall C 21 (aCons (cVar 0) (aCons (cVar 1) (aCons (cVar 2) aNil)))) aNil))))) (sSeq (sRet (cK (.bl false))) sNil) sNil) (sSeq (sFor (iV (cVar 3)) (gN 5) (sSeq (sAsg (gN 6) (cCall C 20 (aCons (cVar 0) (aCons (cVar 1) (aCons (cVar 5) (aCons (cVar 2) aNil)))))) (sSeq (sFor (iV (cTup (aCons (cCall C 7 (aCons (cVar 0) (aCons (cVar 1) (aCons (cVar 5) (aCons (cVar 2) aNil))))) (aCons (cCall C 10 (aCons (cVar 4) (aCons (cVar 5) aNil))) aNil)))) (gN 7) (sSeq (sIf (tOr (tNot (tVal (cCall C 23 (aCons (cVar 7) aNil)))) (tCmp .ne (cVar 7) (cVar 6))) (sSeq (sRet (cK (.bl false))) sNil) sNil) sNil)) sNil))) (sSeq (sRet (cK (.bl true))) sNil))))
def f_law_every_start : Fn := ⟨4, 8, d_law_every_start⟩
def m_law_every_start : DefM := ⟨⟨("_law_every_start", none), "_law_every_start", "_law_every_start", defArgs (top 35), defBody (top 35), defScope (top 35), [], []⟩, ["low", "high", "moves", "starts", "told", "start", "due", "stock"], ["low", "high", "moves", "starts"]⟩
def d_law_pieces : Orc → DenS := fun C => (sSeq (sAsg (gN 2) (cLst aNil)) (sSeq (sAsg (gN 3) (cVar 1)) (sSeq (sFor (iRng1 (cCall C 14 (aCons (cVar 0) (aCons (cK (.int 5)) aNil)))) (gN 4) (sSeq (sAsg (gN 5) (cCall C 14 (aCons (cVar 0) (aCons (c2 addD (cB bLen (aCons (cVar 3) aNil)) (cK (.int 1))) aNil)))) (sSeq (sExp (cM isLst mAppend (cVar 2) (aCons (cSl (cVar 3) pNo (pSome (cVar 5))) aNil))) (sSeq (sAsg (gN 3) (cSl (cVar 3) (pSome (cVar 5)) pNo)) sNil)))) (sSeq (sExp (cM isLst mAppend (cVar 2) (aCons (cVar 3) aNil))) (sSeq (sRet (cVar 2)) sNil)))))
def f_law_pieces : Fn := ⟨2, 6, d_law_pieces⟩
def m_law_pieces : DefM := ⟨⟨("_law_pieces", none), "_law_pieces", "_law_pieces", defArgs (top 36), defBody (top 36), defScope (top 36), [], []⟩, ["source", "moves", "pieces", "left", "k", "place"], ["source", "moves"]⟩
def d_law_joined : Orc → DenS := fun C => (sSeq (sAsg (gN 4) (cVar 3)) (sSeq (sAsg (gN 5) (cLc [10] (iV (cVar 3)) (gN 10) tYes (cCall C 9 (aCons (cVar 1) (aCons (cVar 2) (aCons (cVar 10) aNil)))))) (sSeq (sFor (iRng1 (c2 subD (cB bLen (aCons (cVar 3) aNil)) (cK (.int 1)))) (gN 6) (sSeq (sAsg (gN 7) (cCall C 14 (aCons (cVar 0) (aCons (c2 subD (cB bLen (aCons (cVar 4) aNil)) (cK (.int 1))) aNil)))) (sSeq (sAsg (gN 8) (c2 addD (c2 ixD (cVar 4) (cVar 7)) (c2 ixD (cVar 4) (c2 addD (cVar 7) (cK (.int 1)))))) (sSeq (sAsg (gN 9) (cCall C 11 (aCons (c2 ixD (cVar 5) (cVar 7)) (aCons (c2 ixD (cVar 5) (c2 addD (cVar 7) (cK (.int 1)))) aNil)))) (sSeq (sIf (tNot (tVal (cCall C 24 (aCons (cVar 9) (aCons (cCall C 21 (aCons (cVar 1) (aCons (cVar 2) (aCons (cVar 8) aNil)))) aNil))))) (sSeq (sRet (cK (.bl false))) sNil) sNil) (sSeq (sAsg (gN 4) (c2 addD (c2 addD (cSl (cVar 4) pNo (pSome (cVar 7))) (cLst (aCons (cVar 8) aNil))) (cSl (cVar 4) (pSome (c2 addD (cVar 7) (cK (.int 2)))) pNo))) (sSeq (sAsg (gN 5) (c2 addD (c2 addD (cSl (cVar 5) pNo (pSome (cVar 7))) (cLst (aCons (cVar 9) aNil))) (cSl (cVar 5) (pSome (c2 addD (cVar 7) (cK (.int 2)))) pNo))) sNil))))))) (sSeq (sRet (cK (.bl true))) sNil))))
def f_law_joined : Fn := ⟨4, 11, d_law_joined⟩
def m_law_joined : DefM := ⟨⟨("_law_joined", none), "_law_joined", "_law_joined", defArgs (top 37), defBody (top 37), defScope (top 37), [], []⟩, ["source", "low", "high", "pieces", "left", "line", "k", "place", "whole", "made", "piece"], ["source", "low", "high", "pieces"]⟩
def d_law_every_cut : Orc → DenS := fun C => (sSeq (sAsg (gN 3) (cCall C 21 (aCons (cVar 0) (aCons (cVar 1) (aCons (cVar 2) aNil))))) (sSeq (sFor (iRng1 (c2 addD (cB bLen (aCons (cVar 2) aNil)) (cK (.int 1)))) (gN 4) (sSeq (sAsg (gN 5) (cCall C 11 (aCons (cCall C 9 (aCons (cVar 0) (aCons (cVar 1) (aCons (cSl (cVar 2) pNo (pSome (cVar 4))) aNil)))) (aCons (cCall C 9 (aCons (cVar 0) (aCons (cVar 1) (aCons (cSl (cVar 2) (pSome (cVar 4)) pNo) aNil)))) aNil)))) (sSeq (sIf (tNot (tVal (cCall C 24 (aCons (cVar 5) (aCons (cVar 3) aNil))))) (sSeq (sRet (cK (.bl false))) sNil) sNil) sNil))) (sSeq (sRet (cK (.bl true))) sNil)))
def f_law_every_cut : Fn := ⟨3, 6, d_law_every_cut⟩
def m_law_every_cut : DefM := ⟨⟨("_law_every_cut", none), "_law_every_cut", "_law_every_cut", defArgs (top 38), defBody (top 38), defScope (top 38), [], []⟩, ["low", "high", "moves", "due", "place", "made"], ["low", "high", "moves"]⟩
def d_law_are_moves : Orc → DenS := fun C => (sSeq (sIf (tOr (tNot (tVal (cIs1 (cVar 0) .tup))) (tCmp .gt (cB bLen (aCons (cVar 0) aNil)) (cK (.int 64)))) (sSeq (sRet (cK (.bl false))) sNil) sNil) (sSeq (sRet (cBL bAllI (lcI [1] (iV (cVar 0)) (gN 1) tYes (cAnd (cCall C 23 (aCons (cVar 1) aNil)) (cAnd (cCmp .le (c1 negD (c2 powD (cK (.int 10)) (cK (.int 30)))) (cVar 1)) (cCmp .le (cVar 1) (c2 powD (cK (.int 10)) (cK (.int 30))))))))) sNil))
def f_law_are_moves : Fn := ⟨1, 2, d_law_are_moves⟩
def m_law_are_moves : DefM := ⟨⟨("_law_are_moves", none), "_law_are_moves", "_law_are_moves", defArgs (top 39), defBody (top 39), defScope (top 39), [], []⟩, ["thing", "move"], ["thing"]⟩
def d_law_spoils : Orc → DenS := fun C => (sSeq (sAsg (gN 1) (cCall C 12 (aCons (cVar 0) aNil))) (sSeq (sIf (tOr (tNot (tVal (cIs1 (cVar 1) .tup))) (tCmp .ne (cB bLen (aCons (cVar 1) aNil)) (cK (.int 5)))) (sSeq (sRet (cK (.bl false))) sNil) sNil) (sSeq (sAsg (gT 5 (gsCons (gN 2) (gsCons (gN 3) (gsCons (gN 4) (gsCons (gN 5) (gsCons (gN 6) gsNil)))))) (cVar 1)) (sSeq (sIf (tOr (tNot (tVal (cCall C 23 (aCons (cVar 2) aNil)))) (tOr (tNot (tVal (cCall C 23 (aCons (cVar 3) aNil)))) (tNot (tVal (cCall C 23 (aCons (cVar 6) aNil)))))) (sSeq (sRet (cK (.bl false))) sNil) sNil) (sSeq (sIf (tOr (tCmp .lt (cVar 2) (c1 negD (c2 powD (cK (.int 10)) (cK (.int 30))))) (tOr (tCmp .lt (cVar 6) (cVar 2)) (tOr (tCmp .lt (cVar 3) (cVar 6)) (tCmp .gt (cVar 3) (c2 powD (cK (.int 10)) (cK (.int 30))))))) (sSeq (sRet (cK (.bl false))) sNil) sNil) (sSeq (sIf (tOr (tNot (tVal (cCall C 29 (aCons (cVar 4) aNil)))) (tNot (tVal (cCall C 29 (aCons (cVar 5) aNil))))) (sSeq (sRet (cK (.bl false))) sNil) sNil) (sSeq (sAsg (gN 7) (cCall C 21 (aCons (cVar 2) (aCons (cVar 3) (aCons (cVar 4) aNil))))) (sSeq (sAsg (gN 8) (cCall C 21 (aCons (cVar 2) (aCons (cVar 3) (aCons (cVar 5) aNil))))) (sSeq (sIf (tCmp .ne (cLc [9] (iRng1 (cK (.int 3))) (gN 9) (tCmp .ne (c2 ixD (cVar 7) (cVar 9)) (c2 ixD (cVar 8) (cVar 9))) (cVar 9)) (cLst (aCons (cVar 0) aNil))) (sSeq (sRet (cK (.bl false))) sNil) sNil) (sSeq (sRet (cCmp .ne (cCall C 20 (aCons (cVar 2) (aCons (cVar 3) (aCons (cVar 6) (aCons (cVar 4) aNil))))) (cCall C 20 (aCons (cVar 2) (aCons (cVar 3) (aCons (cVar 6) (aCons (cVar 5) aNil))))))) sNil))))))))))
def f_law_spoils : Fn := ⟨1, 10, d_law_spoils⟩
def m_law_spoils : DefM := ⟨⟨("_law_spoils", none), "_law_spoils", "_law_spoils", defArgs (top 40), defBody (top 40), defScope (top 40), [], []⟩, ["which", "told", "low", "high", "one", "other", "start", "first", "second", "k"], ["which"]⟩
def d_law_bad_bounds : Orc → DenS := fun C => (sSeq (sAsg (gN 3) (cCall C 14 (aCons (cVar 0) (aCons (cK (.int 6)) aNil)))) (sSeq (sIf (tCmp .eq (cVar 3) (cK (.int 0))) (sSeq (sRet (cTup (aCons (c2 addD (cVar 2) (cK (.int 1))) (aCons (cVar 2) aNil)))) sNil) sNil) (sSeq (sIf (tCmp .eq (cVar 3) (cK (.int 1))) (sSeq (sRet (cTup (aCons (cVar 1) (aCons (c2 addD (c2 powD (cK (.int 10)) (cK (.int 30))) (cK (.int 1))) aNil)))) sNil) sNil) (sSeq (sIf (tCmp .eq (cVar 3) (cK (.int 2))) (sSeq (sRet (cTup (aCons (c2 subD (c1 negD (c2 powD (cK (.int 10)) (cK (.int 30)))) (cK (.int 1))) (aCons (cVar 2) aNil)))) sNil) sNil) (sSeq (sIf (tCmp .eq (cVar 3) (cK (.int 3))) (sSeq (sRet (cTup (aCons (cK (.bl false)) (aCons (c2 powD (cK (.int 10)) (cK (.int 30))) aNil)))) sNil) sNil) (sSeq (sIf (tCmp .eq (cVar 3) (cK (.int 4))) (sSeq (sRet (cTup (aCons (c1 negD (c2 powD (cK (.int 10)) (cK (.int 30)))) (aCons (cK (.bl true)) aNil)))) sNil) sNil) (sSeq (sRet (cTup (aCons (c2 addD (c2 addD (cVar 2) (cK (.int 1))) (cCall C 14 (aCons (cVar 0) (aCons (c2 powD (cK (.int 10)) (cK (.int 30))) aNil)))) (aCons (cVar 1) aNil)))) sNil)))))))
def f_law_bad_bounds : Fn := ⟨3, 4, d_law_bad_bounds⟩
def m_law_bad_bounds : DefM := ⟨⟨("_law_bad_bounds", none), "_law_bad_bounds", "_law_bad_bounds", defArgs (top 41), defBody (top 41), defScope (top 41), [], []⟩, ["source", "low", "high", "way"], ["source", "low", "high"]⟩
def d_law_bad_start : Orc → DenS := fun C => (sSeq (sAsg (gN 3) (cCall C 14 (aCons (cVar 0) (aCons (c2 powD (cK (.int 10)) (cK (.int 30))) aNil)))) (sSeq (sRet (cCall C 15 (aCons (cVar 0) (aCons (cTup (aCons (c2 subD (cVar 1) (cK (.int 1))) (aCons (c2 addD (cVar 2) (cK (.int 1))) (aCons (c2 subD (c2 subD (cVar 1) (cK (.int 1))) (cVar 3)) (aCons (c2 addD (c2 addD (cVar 2) (cK (.int 1))) (cVar 3)) (aCons (cK (.bl true)) aNil)))))) aNil)))) sNil))
def f_law_bad_start : Fn := ⟨3, 4, d_law_bad_start⟩
def m_law_bad_start : DefM := ⟨⟨("_law_bad_start", none), "_law_bad_start", "_law_bad_start", defArgs (top 42), defBody (top 42), defScope (top 42), [], []⟩, ["source", "low", "high", "more"], ["source", "low", "high"]⟩
def d_law_bad_moves : Orc → DenS := fun C => (sSeq (sAsg (gN 2) (cCall C 14 (aCons (cVar 0) (aCons (cK (.int 5)) aNil)))) (sSeq (sAsg (gN 3) (cCall C 14 (aCons (cVar 0) (aCons (c2 addD (cB bLen (aCons (cVar 1) aNil)) (cK (.int 1))) aNil)))) (sSeq (sIf (tCmp .eq (cVar 2) (cK (.int 0))) (sSeq (sRet (c2 addD (c2 addD (cSl (cVar 1) pNo (pSome (cVar 3))) (cTup (aCons (c2 addD (c2 addD (c2 powD (cK (.int 10)) (cK (.int 30))) (cK (.int 1))) (cCall C 14 (aCons (cVar 0) (aCons (cK (.int 5)) aNil)))) aNil))) (cSl (cVar 1) (pSome (cVar 3)) pNo))) sNil) sNil) (sSeq (sIf (tCmp .eq (cVar 2) (cK (.int 1))) (sSeq (sRet (c2 addD (c2 addD (cSl (cVar 1) pNo (pSome (cVar 3))) (cTup (aCons (c2 subD (c1 negD (c2 powD (cK (.int 10)) (cK (.int 30)))) (cK (.int 1))) aNil))) (cSl (cVar 1) (pSome (cVar 3)) pNo))) sNil) sNil) (sSeq (sIf (tCmp .eq (cVar 2) (cK (.int 2))) (sSeq (sRet (c2 addD (c2 addD (cSl (cVar 1) pNo (pSome (cVar 3))) (cTup (aCons (cK (.bl true)) aNil))) (cSl (cVar 1) (pSome (cVar 3)) pNo))) sNil) sNil) (sSeq (sIf (tCmp .eq (cVar 2) (cK (.int 3))) (sSeq (sRet (c2 addD (cVar 1) (cBL newT (lcI [4] (iRng1 (c2 subD (cK (.int 65)) (cB bLen (aCons (cVar 1) aNil)))) (gN 4) tYes (cK (.int 0)))))) sNil) sNil) (sSeq (sRet (cB (ofItems newL) (aCons (cVar 1) aNil))) sNil)))))))
def f_law_bad_moves : Fn := ⟨2, 5, d_law_bad_moves⟩
def m_law_bad_moves : DefM := ⟨⟨("_law_bad_moves", none), "_law_bad_moves", "_law_bad_moves", defArgs (top 43), defBody (top 43), defScope (top 43), [], []⟩, ["source", "moves", "way", "place", "k"], ["source", "moves"]⟩
def d_law_clamped_word : Orc → DenS := fun C => (sSeq (sTry (supOf supT) (sSeq (sAsg (gN 4) (cCall C 7 (aCons (cVar 0) (aCons (cVar 1) (aCons (cVar 2) (aCons (cVar 3) aNil)))))) sNil) 0 5 (sSeq (sRet (cTup (aCons (cK (.str "refused")) (aCons (cAnd (cIsE1 (supOf supT) 5 (.exc 2)) (cAnd (cIsE1 (supOf supT) 5 .verr) (cNot (cIsE1 (supOf supT) 5 (.exc 1))))) aNil)))) sNil)) (sSeq (sRet (cTup (aCons (cK (.str "told")) (aCons (cVar 4) aNil)))) sNil))
def f_law_clamped_word : Fn := ⟨4, 6, d_law_clamped_word⟩
def m_law_clamped_word : DefM := ⟨⟨("_law_clamped_word", none), "_law_clamped_word", "_law_clamped_word", defArgs (top 44), defBody (top 44), defScope (top 44), [], []⟩, ["low", "high", "start", "moves", "stock", "e"], ["low", "high", "start", "moves"]⟩
def d_law_clamp_word : Orc → DenS := fun C => (sSeq (sTry (supOf supT) (sSeq (sAsg (gN 3) (cCall C 9 (aCons (cVar 0) (aCons (cVar 1) (aCons (cVar 2) aNil))))) sNil) 0 4 (sSeq (sRet (cTup (aCons (cK (.str "refused")) (aCons (cAnd (cIsE1 (supOf supT) 4 (.exc 2)) (cAnd (cIsE1 (supOf supT) 4 .verr) (cNot (cIsE1 (supOf supT) 4 (.exc 1))))) aNil)))) sNil)) (sSeq (sRet (cTup (aCons (cK (.str "told")) (aCons (cVar 3) aNil)))) sNil))
def f_law_clamp_word : Fn := ⟨3, 5, d_law_clamp_word⟩
def m_law_clamp_word : DefM := ⟨⟨("_law_clamp_word", none), "_law_clamp_word", "_law_clamp_word", defArgs (top 45), defBody (top 45), defScope (top 45), [], []⟩, ["low", "high", "moves", "told", "e"], ["low", "high", "moves"]⟩
def d_law_spoiler_word : Orc → DenS := fun C => (sSeq (sTry (supOf supT) (sSeq (sAsg (gN 1) (cCall C 12 (aCons (cVar 0) aNil))) sNil) 0 2 (sSeq (sRet (cTup (aCons (cK (.str "refused")) (aCons (cAnd (cIsE1 (supOf supT) 2 (.exc 2)) (cAnd (cIsE1 (supOf supT) 2 .verr) (cNot (cIsE1 (supOf supT) 2 (.exc 1))))) aNil)))) sNil)) (sSeq (sRet (cTup (aCons (cK (.str "told")) (aCons (cVar 1) aNil)))) sNil))
def f_law_spoiler_word : Fn := ⟨1, 3, d_law_spoiler_word⟩
def m_law_spoiler_word : DefM := ⟨⟨("_law_spoiler_word", none), "_law_spoiler_word", "_law_spoiler_word", defArgs (top 46), defBody (top 46), defScope (top 46), [], []⟩, ["which", "told", "e"], ["which"]⟩
def d_law_refusals : Orc → DenS := fun C => (sSeq (sAsg (gN 4) (cCall C 31 (aCons (cVar 0) (aCons (cVar 1) (aCons (cVar 2) aNil))))) (sSeq (sAsg (gN 5) (cCall C 32 (aCons (cVar 0) (aCons (cVar 1) (aCons (cVar 2) aNil))))) (sSeq (sAsg (gN 6) (cCall C 33 (aCons (cVar 0) (aCons (cVar 3) aNil)))) (sSeq (sAsg (gN 7) (cCall C 15 (aCons (cVar 0) (aCons (cTup (aCons (cK (.int 3)) (aCons (c1 negD (cK (.int 1))) (aCons (cK (.bl true)) (aCons (cK (.bl false)) (aCons (c2 addD (cK (.int 4)) (cCall C 14 (aCons (cVar 0) (aCons (c2 powD (cK (.int 10)) (cK (.int 30))) aNil)))) (aCons (c2 subD (c1 negD (cK (.int 2))) (cCall C 14 (aCons (cVar 0) (aCons (cK (.int 99)) aNil)))) aNil))))))) aNil)))) (sSeq (sAsg (gN 8) (cLst (aCons (cCall C 34 (aCons (c2 ixD (cVar 4) (cK (.int 0))) (aCons (c2 ixD (cVar 4) (cK (.int 1))) (aCons (cVar 1) (aCons (cVar 3) aNil))))) (aCons (cCall C 34 (aCons (cVar 1) (aCons (cVar 2) (aCons (cVar 5) (aCons (cVar 3) aNil))))) (aCons (cCall C 34 (aCons (cVar 1) (aCons (cVar 2) (aCons (cVar 2) (aCons (cVar 6) aNil))))) (aCons (cCall C 35 (aCons (c2 ixD (cVar 4) (cK (.int 0))) (aCons (c2 ixD (cVar 4) (cK (.int 1))) (aCons (cVar 3) aNil)))) (aCons (cCall C 35 (aCons (cVar 1) (aCons (cVar 2) (aCons (cVar 6) aNil)))) (aCons (cCall C 36 (aCons (cVar 7) aNil)) aNil)))))))) (sSeq (sRet (cBL bAllI (lcI [9] (iV (cVar 8)) (gN 9) tYes (cCmp .eq (cVar 9) (cTup (aCons (cK (.str "refused")) (aCons (cK (.bl true)) aNil))))))) sNil))))))
def f_law_refusals : Fn := ⟨4, 10, d_law_refusals⟩
def m_law_refusals : DefM := ⟨⟨("_law_refusals", none), "_law_refusals", "_law_refusals", defArgs (top 47), defBody (top 47), defScope (top 47), [], []⟩, ["source", "low", "high", "moves", "bad", "start", "wrong", "which", "words", "word"], ["source", "low", "high", "moves"]⟩
def dlaw : Orc → DenS := fun C => (sSeq (sAsg (gN 1) (cCall C 13 (aCons (cVar 0) (aCons (cK (.int 0)) aNil)))) (sSeq (sAsg (gT 2 (gsCons (gN 2) (gsCons (gN 3) gsNil))) (cCall C 16 (aCons (cVar 1) aNil))) (sSeq (sAsg (gN 4) (cCall C 18 (aCons (cCall C 13 (aCons (cVar 0) (aCons (cK (.int 1)) aNil))) (aCons (cSl (cVar 0) (pSome (cK (.int 3))) (pSome (cK (.int 63)))) (aCons (c2 subD (cVar 3) (cVar 2)) aNil))))) (sSeq (sAsg (gN 5) (cCall C 13 (aCons (cVar 0) (aCons (cK (.int 2)) aNil)))) (sSeq (sAsg (gN 6) (cCall C 19 (aCons (cVar 5) (aCons (cVar 4) (aCons (c2 subD (cVar 3) (cVar 2)) aNil))))) (sSeq (sIf (tCmp .eq (cCall C 14 (aCons (cVar 5) (aCons (cK (.int 4)) aNil))) (cK (.int 0))) (sSeq (sAsg (gN 7) (cB bMin (aCons (c2 subD (cVar 3) (cVar 2)) (aCons (c2 powD (cK (.int 10)) (cK (.int 30))) aNil)))) (sSeq (sAsg (gN 7) (cIf (tCmp .eq (cCall C 14 (aCons (cVar 5) (aCons (cK (.int 2)) aNil))) (cK (.int 0))) (cVar 7) (c1 negD (cVar 7)))) (sSeq (sAsg (gN 4) (c2 addD (cSl (cVar 4) pNo (pSome (cK (.int 63)))) (cTup (aCons (cVar 7) aNil)))) (sSeq (sAsg (gN 6) (c2 addD (cSl (cVar 6) pNo (pSome (cK (.int 63)))) (cTup (aCons (cVar 7) aNil)))) sNil)))) sNil) (sSeq (sAsg (gN 8) (cCall C 22 (aCons (cVar 5) (aCons (cVar 2) (aCons (cVar 3) (aCons (cLst (aCons (cCall C 21 (aCons (cVar 2) (aCons (cVar 3) (aCons (cVar 4) aNil)))) (aCons (cCall C 21 (aCons (cVar 2) (aCons (cVar 3) (aCons (cVar 6) aNil)))) aNil))) aNil)))))) (sSeq (sIf (tOr (tNot (tVal (cCall C 25 (aCons (cVar 2) (aCons (cVar 3) (aCons (cVar 4) (aCons (cVar 8) aNil))))))) (tNot (tVal (cCall C 25 (aCons (cVar 2) (aCons (cVar 3) (aCons (cVar 6) (aCons (cVar 8) aNil)))))))) (sSeq (sRet (cK (.bl false))) sNil) sNil) (sSeq (sAsg (gN 9) (cBL bAllI (lcI [10] (iV (cVar 8)) (gN 10) tYes (cCmp .eq (cCall C 20 (aCons (cVar 2) (aCons (cVar 3) (aCons (cVar 10) (aCons (cVar 4) aNil))))) (cCall C 20 (aCons (cVar 2) (aCons (cVar 3) (aCons (cVar 10) (aCons (cVar 6) aNil))))))))) (sSeq (sIf (tCmp .ne (cCmp .eq (cCall C 9 (aCons (cVar 2) (aCons (cVar 3) (aCons (cVar 4) aNil)))) (cCall C 9 (aCons (cVar 2) (aCons (cVar 3) (aCons (cVar 6) aNil))))) (cVar 9)) (sSeq (sRet (cK (.bl false))) sNil) sNil) (sSeq (sIf (tNot (tVal (cCall C 27 (aCons (cVar 5) (aCons (cVar 2) (aCons (cVar 3) (aCons (cCall C 26 (aCons (cVar 5) (aCons (cVar 4) aNil))) aNil))))))) (sSeq (sRet (cK (.bl false))) sNil) sNil) (sSeq (sIf (tOr (tNot (tVal (cCall C 27 (aCons (cVar 5) (aCons (cVar 2) (aCons (cVar 3) (aCons (cLst (aCons (cVar 4) (aCons (cVar 6) aNil))) aNil))))))) (tNot (tVal (cCall C 27 (aCons (cVar 5) (aCons (cVar 2) (aCons (cVar 3) (aCons (cLst (aCons (cVar 6) (aCons (cVar 4) aNil))) aNil)))))))) (sSeq (sRet (cK (.bl false))) sNil) sNil) (sSeq (sIf (tAnd (tCmp .le (cB bLen (aCons (cVar 4) aNil)) (cK (.int 12))) (tNot (tVal (cCall C 28 (aCons (cVar 2) (aCons (cVar 3) (aCons (cVar 4) aNil))))))) (sSeq (sRet (cK (.bl false))) sNil) sNil) (sSeq (sIf (tNot (tVal (cBL bAllI (lcI [11] (iRng1 (cK (.int 3))) (gN 11) tYes (cCall C 30 (aCons (cVar 11) aNil)))))) (sSeq (sRet (cK (.bl false))) sNil) sNil) (sSeq (sRet (cCall C 37 (aCons (cVar 5) (aCons (cVar 2) (aCons (cVar 3) (aCons (cVar 4) aNil)))))) sNil)))))))))))))))
def flaw : Fn := ⟨1, 12, dlaw⟩
def mlaw : DefM := ⟨⟨("law", none), "law", "law", defArgs (top 48), defBody (top 48), defScope (top 48), [], []⟩, ["script", "source", "low", "high", "one", "drawn", "other", "end", "starts", "same", "start", "which"], ["script"]⟩
def fns : List Fn := [fis_integer, fis_within, fis_numbers, fcheck_moves, fcheck_bounds, fcheck_start, fmiddle_of, fclamped, fmade_clamp, fclamp, fapply_clamp, fjoin_clamps, fclamp_spoiler, f_law_source, f_law_draw, f_law_pick, f_law_bounds, f_law_move, f_law_moves, f_law_near, f_law_held, f_law_triple, f_law_starts, f_law_is_integer, f_law_is_triple, f_law_every_start, f_law_pieces, f_law_joined, f_law_every_cut, f_law_are_moves, f_law_spoils, f_law_bad_bounds, f_law_bad_start, f_law_bad_moves, f_law_clamped_word, f_law_clamp_word, f_law_spoiler_word, f_law_refusals, flaw]
def mds : List DefM := [mis_integer, mis_within, mis_numbers, mcheck_moves, mcheck_bounds, mcheck_start, mmiddle_of, mclamped, mmade_clamp, mclamp, mapply_clamp, mjoin_clamps, mclamp_spoiler, m_law_source, m_law_draw, m_law_pick, m_law_bounds, m_law_move, m_law_moves, m_law_near, m_law_held, m_law_triple, m_law_starts, m_law_is_integer, m_law_is_triple, m_law_every_start, m_law_pieces, m_law_joined, m_law_every_cut, m_law_are_moves, m_law_spoils, m_law_bad_bounds, m_law_bad_start, m_law_bad_moves, m_law_clamped_word, m_law_clamp_word, m_law_spoiler_word, m_law_refusals, mlaw]
def hd : Hd := ⟨mds, conT, excT, ["ValueError", "abs", "all", "bool", "int", "isinstance", "len", "list", "max", "min", "range", "sum", "tuple"], supT⟩
/-! ### each text means that -/
abbrev Td : Tab := hd.tab
theorem sis_integer : DefS Td 60 mis_integer fis_integer := ⟨⟨rfl, rfl, rfl, by decide +kernel, rfl, by decide +kernel, by decide +kernel⟩, fun _ _ _ _ _ _ us hl => match us, hl with | [_], _ => rfl, rfl, rfl, by kernel_rfl⟩
theorem sis_within : DefS Td 60 mis_within fis_within := ⟨⟨rfl, rfl, rfl, by decide +kernel, rfl, by decide +kernel, by decide +kernel⟩, fun _ _ _ _ _ _ us hl => match us, hl with | [_, _, _], _ => rfl, rfl, rfl, by kernel_rfl⟩
theorem sis_numbers : DefS Td 60 mis_numbers fis_numbers := ⟨⟨rfl, rfl, rfl, by decide +kernel, rfl, by decide +kernel, by decide +kernel⟩, fun _ _ _ _ _ _ us hl => match us, hl with | [_, _, _], _ => rfl, rfl, rfl, by kernel_rfl⟩
theorem scheck_moves : DefS Td 60 mcheck_moves fcheck_moves := ⟨⟨rfl, rfl, rfl, by decide +kernel, rfl, by decide +kernel, by decide +kernel⟩, fun _ _ _ _ _ _ us hl => match us, hl with | [_], _ => rfl, rfl, rfl, by kernel_rfl⟩
theorem scheck_bounds : DefS Td 60 mcheck_bounds fcheck_bounds := ⟨⟨rfl, rfl, rfl, by decide +kernel, rfl, by decide +kernel, by decide +kernel⟩, fun _ _ _ _ _ _ us hl => match us, hl with | [_, _], _ => rfl, rfl, rfl, by kernel_rfl⟩
theorem scheck_start : DefS Td 60 mcheck_start fcheck_start := ⟨⟨rfl, rfl, rfl, by decide +kernel, rfl, by decide +kernel, by decide +kernel⟩, fun _ _ _ _ _ _ us hl => match us, hl with | [_, _, _], _ => rfl, rfl, rfl, by kernel_rfl⟩
theorem smiddle_of : DefS Td 60 mmiddle_of fmiddle_of := ⟨⟨rfl, rfl, rfl, by decide +kernel, rfl, by decide +kernel, by decide +kernel⟩, fun _ _ _ _ _ _ us hl => match us, hl with | [_, _, _], _ => rfl, rfl, rfl, by kernel_rfl⟩
theorem sclamped : DefS Td 60 mclamped fclamped := ⟨⟨rfl, rfl, rfl, by decide +kernel, rfl, by decide +kernel, by decide +kernel⟩, fun _ _ _ _ _ _ us hl => match us, hl with | [_, _, _, _], _ => rfl, rfl, rfl, by kernel_rfl⟩
theorem smade_clamp : DefS Td 60 mmade_clamp fmade_clamp := ⟨⟨rfl, rfl, rfl, by decide +kernel, rfl, by decide +kernel, by decide +kernel⟩, fun _ _ _ _ _ _ us hl => match us, hl with | [_, _, _], _ => rfl, rfl, rfl, by kernel_rfl⟩
theorem sclamp : DefS Td 60 mclamp fclamp := ⟨⟨rfl, rfl, rfl, by decide +kernel, rfl, by decide +kernel, by decide +kernel⟩, fun _ _ _ _ _ _ us hl => match us, hl with | [_, _, _], _ => rfl, rfl, rfl, by kernel_rfl⟩
theorem sapply_clamp : DefS Td 60 mapply_clamp fapply_clamp := ⟨⟨rfl, rfl, rfl, by decide +kernel, rfl, by decide +kernel, by decide +kernel⟩, fun _ _ _ _ _ _ us hl => match us, hl with | [_, _], _ => rfl, rfl, rfl, by kernel_rfl⟩
theorem sjoin_clamps : DefS Td 60 mjoin_clamps fjoin_clamps := ⟨⟨rfl, rfl, rfl, by decide +kernel, rfl, by decide +kernel, by decide +kernel⟩, fun _ _ _ _ _ _ us hl => match us, hl with | [_, _], _ => rfl, rfl, rfl, by kernel_rfl⟩
theorem sclamp_spoiler : DefS Td 60 mclamp_spoiler fclamp_spoiler := ⟨⟨rfl, rfl, rfl, by decide +kernel, rfl, by decide +kernel, by decide +kernel⟩, fun _ _ _ _ _ _ us hl => match us, hl with | [_], _ => rfl, rfl, rfl, by kernel_rfl⟩
theorem s_law_source : DefS Td 60 m_law_source f_law_source := ⟨⟨rfl, rfl, rfl, by decide +kernel, rfl, by decide +kernel, by decide +kernel⟩, fun _ _ _ _ _ _ us hl => match us, hl with | [_, _], _ => rfl, rfl, rfl, by kernel_rfl⟩
theorem s_law_draw : DefS Td 60 m_law_draw f_law_draw := ⟨⟨rfl, rfl, rfl, by decide +kernel, rfl, by decide +kernel, by decide +kernel⟩, fun _ _ _ _ _ _ us hl => match us, hl with | [_, _], _ => rfl, rfl, rfl, by kernel_rfl⟩
theorem s_law_pick : DefS Td 60 m_law_pick f_law_pick := ⟨⟨rfl, rfl, rfl, by decide +kernel, rfl, by decide +kernel, by decide +kernel⟩, fun _ _ _ _ _ _ us hl => match us, hl with | [_, _], _ => rfl, rfl, rfl, by kernel_rfl⟩
theorem s_law_bounds : DefS Td 60 m_law_bounds f_law_bounds := ⟨⟨rfl, rfl, rfl, by decide +kernel, rfl, by decide +kernel, by decide +kernel⟩, fun _ _ _ _ _ _ us hl => match us, hl with | [_], _ => rfl, rfl, rfl, by kernel_rfl⟩
theorem s_law_move : DefS Td 60 m_law_move f_law_move := ⟨⟨rfl, rfl, rfl, by decide +kernel, rfl, by decide +kernel, by decide +kernel⟩, fun _ _ _ _ _ _ us hl => match us, hl with | [_, _], _ => rfl, rfl, rfl, by kernel_rfl⟩
theorem s_law_moves : DefS Td 60 m_law_moves f_law_moves := ⟨⟨rfl, rfl, rfl, by decide +kernel, rfl, by decide +kernel, by decide +kernel⟩, fun _ _ _ _ _ _ us hl => match us, hl with | [_, _, _], _ => rfl, rfl, rfl, by kernel_rfl⟩
theorem s_law_near : DefS Td 60 m_law_near f_law_near := ⟨⟨rfl, rfl, rfl, by decide +kernel, rfl, by decide +kernel, by decide +kernel⟩, fun _ _ _ _ _ _ us hl => match us, hl with | [_, _, _], _ => rfl, rfl, rfl, by kernel_rfl⟩
theorem s_law_held : DefS Td 60 m_law_held f_law_held := ⟨⟨rfl, rfl, rfl, by decide +kernel, rfl, by decide +kernel, by decide +kernel⟩, fun _ _ _ _ _ _ us hl => match us, hl with | [_, _, _, _], _ => rfl, rfl, rfl, by kernel_rfl⟩
theorem s_law_triple : DefS Td 60 m_law_triple f_law_triple := ⟨⟨rfl, rfl, rfl, by decide +kernel, rfl, by decide +kernel, by decide +kernel⟩, fun _ _ _ _ _ _ us hl => match us, hl with | [_, _, _], _ => rfl, rfl, rfl, by kernel_rfl⟩
theorem s_law_starts : DefS Td 60 m_law_starts f_law_starts := ⟨⟨rfl, rfl, rfl, by decide +kernel, rfl, by decide +kernel, by decide +kernel⟩, fun _ _ _ _ _ _ us hl => match us, hl with | [_, _, _, _], _ => rfl, rfl, rfl, by kernel_rfl⟩
theorem s_law_is_integer : DefS Td 60 m_law_is_integer f_law_is_integer := ⟨⟨rfl, rfl, rfl, by decide +kernel, rfl, by decide +kernel, by decide +kernel⟩, fun _ _ _ _ _ _ us hl => match us, hl with | [_], _ => rfl, rfl, rfl, by kernel_rfl⟩
theorem s_law_is_triple : DefS Td 60 m_law_is_triple f_law_is_triple := ⟨⟨rfl, rfl, rfl, by decide +kernel, rfl, by decide +kernel, by decide +kernel⟩, fun _ _ _ _ _ _ us hl => match us, hl with | [_, _], _ => rfl, rfl, rfl, by kernel_rfl⟩
theorem s_law_every_start : DefS Td 60 m_law_every_start f_law_every_start := ⟨⟨rfl, rfl, rfl, by decide +kernel, rfl, by decide +kernel, by decide +kernel⟩, fun _ _ _ _ _ _ us hl => match us, hl with | [_, _, _, _], _ => rfl, rfl, rfl, by kernel_rfl⟩
theorem s_law_pieces : DefS Td 60 m_law_pieces f_law_pieces := ⟨⟨rfl, rfl, rfl, by decide +kernel, rfl, by decide +kernel, by decide +kernel⟩, fun _ _ _ _ _ _ us hl => match us, hl with | [_, _], _ => rfl, rfl, rfl, by kernel_rfl⟩
theorem s_law_joined : DefS Td 60 m_law_joined f_law_joined := ⟨⟨rfl, rfl, rfl, by decide +kernel, rfl, by decide +kernel, by decide +kernel⟩, fun _ _ _ _ _ _ us hl => match us, hl with | [_, _, _, _], _ => rfl, rfl, rfl, by kernel_rfl⟩
theorem s_law_every_cut : DefS Td 60 m_law_every_cut f_law_every_cut := ⟨⟨rfl, rfl, rfl, by decide +kernel, rfl, by decide +kernel, by decide +kernel⟩, fun _ _ _ _ _ _ us hl => match us, hl with | [_, _, _], _ => rfl, rfl, rfl, by kernel_rfl⟩
theorem s_law_are_moves : DefS Td 60 m_law_are_moves f_law_are_moves := ⟨⟨rfl, rfl, rfl, by decide +kernel, rfl, by decide +kernel, by decide +kernel⟩, fun _ _ _ _ _ _ us hl => match us, hl with | [_], _ => rfl, rfl, rfl, by kernel_rfl⟩
theorem s_law_spoils : DefS Td 60 m_law_spoils f_law_spoils := ⟨⟨rfl, rfl, rfl, by decide +kernel, rfl, by decide +kernel, by decide +kernel⟩, fun _ _ _ _ _ _ us hl => match us, hl with | [_], _ => rfl, rfl, rfl, by kernel_rfl⟩
theorem s_law_bad_bounds : DefS Td 60 m_law_bad_bounds f_law_bad_bounds := ⟨⟨rfl, rfl, rfl, by decide +kernel, rfl, by decide +kernel, by decide +kernel⟩, fun _ _ _ _ _ _ us hl => match us, hl with | [_, _, _], _ => rfl, rfl, rfl, by kernel_rfl⟩
theorem s_law_bad_start : DefS Td 60 m_law_bad_start f_law_bad_start := ⟨⟨rfl, rfl, rfl, by decide +kernel, rfl, by decide +kernel, by decide +kernel⟩, fun _ _ _ _ _ _ us hl => match us, hl with | [_, _, _], _ => rfl, rfl, rfl, by kernel_rfl⟩
theorem s_law_bad_moves : DefS Td 60 m_law_bad_moves f_law_bad_moves := ⟨⟨rfl, rfl, rfl, by decide +kernel, rfl, by decide +kernel, by decide +kernel⟩, fun _ _ _ _ _ _ us hl => match us, hl with | [_, _], _ => rfl, rfl, rfl, by kernel_rfl⟩
theorem s_law_clamped_word : DefS Td 60 m_law_clamped_word f_law_clamped_word := ⟨⟨rfl, rfl, rfl, by decide +kernel, rfl, by decide +kernel, by decide +kernel⟩, fun _ _ _ _ _ _ us hl => match us, hl with | [_, _, _, _], _ => rfl, rfl, rfl, by kernel_rfl⟩
theorem s_law_clamp_word : DefS Td 60 m_law_clamp_word f_law_clamp_word := ⟨⟨rfl, rfl, rfl, by decide +kernel, rfl, by decide +kernel, by decide +kernel⟩, fun _ _ _ _ _ _ us hl => match us, hl with | [_, _, _], _ => rfl, rfl, rfl, by kernel_rfl⟩
theorem s_law_spoiler_word : DefS Td 60 m_law_spoiler_word f_law_spoiler_word := ⟨⟨rfl, rfl, rfl, by decide +kernel, rfl, by decide +kernel, by decide +kernel⟩, fun _ _ _ _ _ _ us hl => match us, hl with | [_], _ => rfl, rfl, rfl, by kernel_rfl⟩
theorem s_law_refusals : DefS Td 60 m_law_refusals f_law_refusals := ⟨⟨rfl, rfl, rfl, by decide +kernel, rfl, by decide +kernel, by decide +kernel⟩, fun _ _ _ _ _ _ us hl => match us, hl with | [_, _, _, _], _ => rfl, rfl, rfl, by kernel_rfl⟩
theorem slaw : DefS Td 60 mlaw flaw := ⟨⟨rfl, rfl, rfl, by decide +kernel, rfl, by decide +kernel, by decide +kernel⟩, fun _ _ _ _ _ _ us hl => match us, hl with | [_], _ => rfl, rfl, rfl, by kernel_rfl⟩
theorem allD : AllD Td 60 mds fns := ⟨sis_integer, sis_within, sis_numbers, scheck_moves, scheck_bounds, scheck_start, smiddle_of, sclamped, smade_clamp, sclamp, sapply_clamp, sjoin_clamps, sclamp_spoiler, s_law_source, s_law_draw, s_law_pick, s_law_bounds, s_law_move, s_law_moves, s_law_near, s_law_held, s_law_triple, s_law_starts, s_law_is_integer, s_law_is_triple, s_law_every_start, s_law_pieces, s_law_joined, s_law_every_cut, s_law_are_moves, s_law_spoils, s_law_bad_bounds, s_law_bad_start, s_law_bad_moves, s_law_clamped_word, s_law_clamp_word, s_law_spoiler_word, s_law_refusals, slaw, trivial⟩
end K93

set_option linter.all false
set_option maxRecDepth 100000
/-! # Clamps: the plain mathematics -/
namespace K93
/-- x between lo and hi -/
def cl (lo hi x : Int) : Int := max lo (min hi x)
def held (lo hi : Int) (x : Int) (ms : List Int) : Int := ms.foldl (fun s m => cl lo hi (s + m)) x
abbrev Tr : Type := Int × Int × Int
def mk (a l m : Int) : Tr := (if l = m then 0 else a, l, m)
def app (c : Tr) (x : Int) : Int := cl c.2.1 c.2.2 (x + c.1)
def join (c d : Tr) : Tr := mk (c.1 + d.1) (app d c.2.1) (app d c.2.2)
def triple (lo hi : Int) (ms : List Int) : Tr := mk ms.sum (held lo hi lo ms) (held lo hi hi ms)
def clampL (lo hi : Int) (ms : List Int) : Tr := ms.foldl (fun w m => join w (mk m (cl lo hi (lo + m)) (cl lo hi (hi + m)))) (mk 0 lo hi)
theorem held_append (lo hi x : Int) (ms ns : List Int) : held lo hi x (ms ++ ns) = held lo hi (held lo hi x ms) ns := List.foldl_append ..
theorem cl_in {lo hi x : Int} (h : lo ≤ hi) : lo ≤ cl lo hi x ∧ cl lo hi x ≤ hi := by unfold cl; omega
theorem held_in {lo hi : Int} (h : lo ≤ hi) : ∀ (ms : List Int) (x : Int), lo ≤ x → x ≤ hi → lo ≤ held lo hi x ms ∧ held lo hi x ms ≤ hi
  | [], x, h1, h2 => ⟨h1, h2⟩
  | m :: ms, x, h1, h2 => held_in h ms _ (cl_in h).1 (cl_in h).2
theorem held_mono {lo hi : Int} (h : lo ≤ hi) : ∀ (ms : List Int) (x y : Int), x ≤ y → held lo hi x ms ≤ held lo hi y ms
  | [], x, y, h1 => h1
  | m :: ms, x, y, h1 => held_mono h ms (cl lo hi (x + m)) (cl lo hi (y + m)) (by unfold cl; omega)
/-- what moves do, by the two ends and the sum -/
theorem held_eq {lo hi : Int} (h : lo ≤ hi) : ∀ (ms : List Int) (x y z : Int), z ≤ x → x ≤ y → held lo hi x ms = cl (held lo hi z ms) (held lo hi y ms) (x + ms.sum)
  | [], x, y, z, h1, h2 => by
    show x = cl z y (x + 0)
    unfold cl
    omega
  | m :: ms, x, y, z, h1, h2 => by
    have e := held_eq h ms (cl lo hi (x + m)) (cl lo hi (y + m)) (cl lo hi (z + m)) (by unfold cl; omega) (by unfold cl; omega)
    show held lo hi (cl lo hi (x + m)) ms = cl (held lo hi (cl lo hi (z + m)) ms) (held lo hi (cl lo hi (y + m)) ms) (x + (m :: ms).sum)
    rw [e, List.sum_cons]
    have ez := held_mono h ms (cl lo hi (z + m)) lo
    have g1 := held_mono h ms (cl lo hi (z + m)) (cl lo hi (y + m)) (by unfold cl; omega)
    by_cases c1 : x + m < lo
    · -- all of the lower end
      have e1 : cl lo hi (z + m) = cl lo hi (x + m) := by unfold cl; omega
      have e2 : cl lo hi (x + m) = lo := by unfold cl; omega
      rw [e1, e2] at g1 ⊢
      have q := held_eq h ms lo (cl lo hi (y + m)) lo (Int.le_refl _) (by unfold cl; omega)
      unfold cl at q g1 ⊢
      omega
    · by_cases c2 : x + m > hi
      · have e1 : cl lo hi (y + m) = cl lo hi (x + m) := by unfold cl; omega
        have e2 : cl lo hi (x + m) = hi := by unfold cl; omega
        rw [e1, e2] at g1 ⊢
        have q := held_eq h ms hi hi (cl lo hi (z + m)) (by unfold cl; omega) (Int.le_refl _)
        unfold cl at q g1 ⊢
        omega
      · have e2 : cl lo hi (x + m) = x + m := by unfold cl; omega
        rw [e2, show x + m + ms.sum = x + (m + ms.sum) by omega]
theorem app_triple {lo hi : Int} (h : lo ≤ hi) (ms : List Int) {x : Int} (h1 : lo ≤ x) (h2 : x ≤ hi) : app (triple lo hi ms) x = held lo hi x ms := by
  have e := held_eq h ms x hi lo h1 h2
  rw [e]
  unfold app triple mk
  dsimp only
  split
  · rename_i q
    rw [q]
    unfold cl
    omega
  · rfl
theorem join_triple {lo hi : Int} (h : lo ≤ hi) (ms ns : List Int) : join (triple lo hi ms) (triple lo hi ns) = triple lo hi (ms ++ ns) := by
  have a1 := held_in h ms lo (Int.le_refl _) h
  have a2 := held_in h ms hi h (Int.le_refl _)
  have e1 : app (triple lo hi ns) (held lo hi lo ms) = held lo hi lo (ms ++ ns) := by rw [app_triple h ns a1.1 a1.2, held_append]
  have e2 : app (triple lo hi ns) (held lo hi hi ms) = held lo hi hi (ms ++ ns) := by rw [app_triple h ns a2.1 a2.2, held_append]
  unfold join
  rw [show (triple lo hi ms).2.1 = held lo hi lo ms from rfl, show (triple lo hi ms).2.2 = held lo hi hi ms from rfl, e1, e2]
  unfold triple mk
  dsimp only
  rw [List.sum_append]
  by_cases q : held lo hi lo (ms ++ ns) = held lo hi hi (ms ++ ns)
  · rw [if_pos q, if_pos q]
  · rw [if_neg q, if_neg q]
    have n1 : held lo hi lo ms ≠ held lo hi hi ms := fun z => q (by rw [held_append, held_append, z])
    have n2 : held lo hi lo ns ≠ held lo hi hi ns := fun z => by
      apply q
      rw [held_append, held_append]
      have b1 := held_mono h ns lo _ a1.1
      have b2 := held_mono h ns _ hi a1.2
      have b3 := held_mono h ns lo _ a2.1
      have b4 := held_mono h ns _ hi a2.2
      omega
    rw [if_neg n1, if_neg n2]
theorem triple_one {lo hi m : Int} : triple lo hi [m] = mk m (cl lo hi (lo + m)) (cl lo hi (hi + m)) := by
  unfold triple held
  simp
theorem clampL_eq {lo hi : Int} (h : lo ≤ hi) (ms : List Int) : clampL lo hi ms = triple lo hi ms := by
  have key : ∀ (ms ns : List Int), ms.foldl (fun w m => join w (mk m (cl lo hi (lo + m)) (cl lo hi (hi + m)))) (triple lo hi ns) = triple lo hi (ns ++ ms) := by
    intro ms
    induction ms with
    | nil => intro ns; rw [List.append_nil]; rfl
    | cons m ms ih =>
      intro ns
      rw [List.foldl_cons, ← triple_one, join_triple h, ih, List.append_assoc]
      rfl
  exact key ms []
/-- two of them that are alike at the bends are one -/
theorem triple_ext {lo hi : Int} (h : lo ≤ hi) {ms ns : List Int} (e0 : held lo hi lo ms = held lo hi lo ns) (e1 : held lo hi hi ms = held lo hi hi ns)
    (e2 : ∀ x, lo ≤ x → x ≤ hi → (x = held lo hi lo ms - (triple lo hi ms).1 ∨ x = held lo hi lo ms - (triple lo hi ms).1 + 1) → held lo hi x ms = held lo hi x ns) : triple lo hi ms = triple lo hi ns := by
  unfold triple at *
  unfold mk at *
  dsimp only at e2
  rw [← e0, ← e1]
  by_cases q : held lo hi lo ms = held lo hi hi ms
  · rw [if_pos q, if_pos q]
  · rw [if_neg q, if_neg q]
    rw [if_neg q] at e2
    have m1 := held_mono h ms lo hi h
    have p1 := held_eq h ms lo hi lo (Int.le_refl _) h
    have p2 := held_eq h ms hi hi lo h (Int.le_refl _)
    have b1 : lo ≤ held lo hi lo ms - ms.sum := by unfold cl at p1; omega
    have b2 : held lo hi lo ms - ms.sum + 1 ≤ hi := by unfold cl at p2; omega
    have f1 := e2 _ b1 (by omega) (.inl rfl)
    have f2 := e2 _ (by omega) b2 (.inr rfl)
    have g1 := held_eq h ms (held lo hi lo ms - ms.sum) hi lo b1 (by omega)
    have g2 := held_eq h ms (held lo hi lo ms - ms.sum + 1) hi lo (by omega) b2
    have g3 := held_eq h ns (held lo hi lo ms - ms.sum) hi lo b1 (by omega)
    have g4 := held_eq h ns (held lo hi lo ms - ms.sum + 1) hi lo (by omega) b2
    rw [← e0, ← e1] at g3 g4
    have : ms.sum = ns.sum := by
      unfold cl at g1 g2 g3 g4
      omega
    rw [this]
end K93

set_option Elab.async false
set_option linter.all false
set_option maxRecDepth 100000
set_option maxHeartbeats 0
namespace K93
open PySem PySem.Spec Mini

local macro_rules | `(tactic| tm_at "m") => `(tactic| first
  | with_reducible refine w_seq1 ?_
  | with_reducible refine w_seq ?_
  | with_reducible refine sq_nx ?_
  | with_reducible refine sq_rt ?_
  | with_reducible refine sq_ex ?_
  | with_reducible refine sq_ct ?_
  | with_reducible refine sq_bk ?_
  | ((with_reducible refine w_varQ ?_); first | refine vq_int ?_ | refine vq_tup ?_ | refine vq_loc ?_ | refine vq_bl ?_ | refine vq_rol ?_ | refine vq_str ?_ | refine vq_non ?_)
  | with_reducible refine w_K ?_
  | with_reducible refine c2T ?_
  | with_reducible refine c2F ?_
  | with_reducible refine c2N ?_
  | with_reducible refine blk ?_
  | with_reducible refine intk ?_
  | with_reducible refine w_asg ?_
  | with_reducible refine w_gN ?_
  | with_reducible refine w_sret ?_
  | with_reducible refine w_sif ?_
  | with_reducible refine w_tcmp ?_
  | with_reducible refine w_cmp ?_
  | with_reducible refine w_2 ?_
  | with_reducible refine w_1 ?_
  | with_reducible refine w_call ?_
  | with_reducible refine w_cons ?_
  | with_reducible refine w_nil ?_
  | with_reducible refine w_B ?_
  | with_reducible refine w_add ?_
  | with_reducible refine w_sub ?_
  | with_reducible refine w_neg ?_
  | ((with_reducible refine w_mul ?_ ?_); first | exact .inl (by decide) | exact .inr (.inl (by decide)))
  | ((with_reducible refine w_div ?_ ?_); exact ⟨by decide, by decide⟩)
  | ((with_reducible refine w_mod ?_ ?_); decide)
  | with_reducible refine w_pow30 ?_
  | with_reducible refine w_pow18 ?_
  | with_reducible refine w_eqI ?_
  | with_reducible refine w_neI ?_
  | with_reducible refine w_ltI ?_
  | with_reducible refine w_leI ?_
  | with_reducible refine w_gtI ?_
  | with_reducible refine w_geI ?_
  | with_reducible refine w_truB ?_
  | with_reducible refine w_tval ?_
  | with_reducible refine w_tnot ?_
  | with_reducible refine w_tand ?_
  | with_reducible refine w_tor ?_
  | with_reducible refine w_cif ?_
  | with_reducible refine w_cand ?_
  | with_reducible refine w_cor ?_
  | with_reducible refine w_cnot ?_
  | with_reducible refine w_chn ?_
  | with_reducible refine w_tchn ?_
  | with_reducible refine w_tup ?_
  | ((with_reducible refine lenK ?_ ?_); exact rfl)
  | with_reducible refine w_is1 ?_
  | ((with_reducible refine w_isQ ?_); refine oq ?_)
  | with_reducible refine w_is ?_
  | ((with_reducible refine w_isQs ?_); refine oq ?_)
  | with_reducible refine w_minI ?_
  | with_reducible refine w_maxI ?_
  | with_reducible refine w_absI ?_
  | with_reducible refine w_intI ?_
  | with_reducible refine w_lenT ?_
  | with_reducible refine w_lenR ?_
  | with_reducible refine w_sl ?_
  | with_reducible refine w_pno ?_
  | with_reducible refine w_psome ?_
  | with_reducible refine w_slT ?_
  | with_reducible refine w_sexp ?_
  | with_reducible refine w_sretN ?_
  | with_reducible refine w_raise ?_
  | with_reducible refine w_snil ?_
  | with_reducible refine w_brk ?_
  | with_reducible refine w_cnt ?_
  | with_reducible refine w_for ?_
  | with_reducible refine w_iV ?_
  | with_reducible refine w_srcT ?_
  | with_reducible refine w_srcR ?_
  | with_reducible refine w_rng1' ?_
  | with_reducible refine w_BL ?_
  | with_reducible refine w_Lc ?_
  | with_reducible refine w_lcI ?_
  | ((with_reducible refine w_gT ?_ ?_); exact rfl)
  | with_reducible refine w_gsCons ?_
  | with_reducible refine w_gsNil ?_
  | with_reducible refine w_gI ?_
  | with_reducible refine w_M ?_
  | with_reducible refine w_lst ?_
  | with_reducible refine w_try ?_
  | with_reducible refine tk_nx ?_
  | with_reducible refine tk_ct ?_
  | with_reducible refine tk_bk ?_
  | with_reducible refine tk_rt ?_
  | with_reducible refine tk_ex ?_
  | with_reducible refine fk_nx ?_
  | with_reducible refine fk_rt ?_
  | with_reducible refine fk_ex ?_
  | with_reducible refine try_rt ?_
  | with_reducible refine try_nx ?_
  | with_reducible refine cat_rt ?_
  | with_reducible refine ek ?_
  | with_reducible refine retQ_same ?_
  | with_reducible refine retE_same ?_)
local macro_rules | `(tactic| tm_at "s") => `(tactic| simp only [Mini.start, List.map_cons, List.map_nil, List.length_cons, List.length_nil, List.replicate, List.cons_append, List.nil_append, Nat.reduceAdd, Nat.reduceSub, List.append_nil])
local macro_rules | `(tactic| tm_at "w") => `(tactic| repeat tm_at "m")

section
variable {Q : D → Store → Prop} {E : Nat → List D → Store → Prop} {μ : Store} {k : Nat}
/-- the value of a number -/
def withB (lo hi : Int) : D → Bool
  | .int n => decide (lo ≤ n) && decide (n ≤ hi)
  | _ => false
def num : D → Bool
  | .int _ => true
  | .bl _ => true
  | _ => false
def isI : D → Bool
  | .int _ => true
  | _ => false
theorem sp_is_integer {d : D} (h : num d = true) (q : Q (.bl (isI d)) μ) : Wp (callN fns (k + 1) 0 [d] μ) Q E := by
  cases d <;> first | (cases h; done) | skip
  · refine w_fn rfl rfl ?_
    unfold fis_integer dis_integer
    tm_at "s"
    tm_at "w"
    exact q
  · refine w_fn rfl rfl ?_
    unfold fis_integer dis_integer
    tm_at "s"
    tm_at "w"
    exact q
theorem sp_lis_integer {d : D} (h : num d = true) (q : Q (.bl (isI d)) μ) : Wp (callN fns (k + 1) 23 [d] μ) Q E := by
  cases d <;> first | (cases h; done) | skip
  · refine w_fn rfl rfl ?_
    unfold f_law_is_integer d_law_is_integer
    tm_at "s"
    tm_at "w"
    exact q
  · refine w_fn rfl rfl ?_
    unfold f_law_is_integer d_law_is_integer
    tm_at "s"
    tm_at "w"
    exact q
theorem sp_middle {a b c : Int} (q : Q (.int (cl a c b)) μ) : Wp (callN fns (k + 1) 6 [.int a, .int b, .int c] μ) Q E := by
  refine w_fn rfl rfl ?_
  unfold fmiddle_of dmiddle_of
  tm_at "s"
  tm_at "w"
  have e : (if (if b < c then b else c) > a then (if b < c then b else c) else a) = cl a c b := by
    unfold cl
    split <;> split <;> omega
  rw [e]
  exact q
theorem sp_within {v : D} {lo hi : Int} (h : num v = true) (q : Q (.bl (withB lo hi v)) μ) : Wp (callN fns (k + 2) 1 [v, .int lo, .int hi] μ) Q E := by
  cases v <;> first | (cases h; done) | skip
  · refine w_fn rfl rfl ?_
    unfold fis_within dis_within
    tm_at "s"
    tm_at "w"
    refine sp_is_integer rfl ?_
    refine blk (c2F ?_)
    tm_at "w"
    exact q
  · rename_i n
    refine w_fn rfl rfl ?_
    unfold fis_within dis_within
    tm_at "s"
    tm_at "w"
    refine sp_is_integer rfl ?_
    refine blk (c2T ?_)
    tm_at "w"
    refine c2D (fun h => ?_) (fun h => ?_)
    · tm_at "w"
      simp only [withB, h, decide_true, Bool.true_and] at q
      exact q
    · tm_at "w"
      simp only [withB, h, decide_false, Bool.false_and] at q
      exact q
/-- is_numbers -/
def numsB (lo hi : Int) : D → Bool
  | .tup xs => xs.all (withB lo hi)
  | _ => false
theorem all_map_bl {α : Type} (p : α → Bool) (xs : List α) : ((xs.map p).all id) = xs.all p := by
  rw [List.all_map]
  rfl
theorem sp_numbersT {xs : List D} {lo hi : Int} (h : ∀ x ∈ xs, num x = true) (hl : xs.length < lineN) (q : Q (.bl (xs.all (withB lo hi))) μ) : Wp (callN fns (k + 3) 2 [.tup xs, .int lo, .int hi] μ) Q E := by
  refine w_fn rfl rfl ?_
  unfold fis_numbers dis_numbers
  tm_at "s"
  tm_at "w"
  refine w_lcP (fun _ => true) (fun d => .bl (withB lo hi d)) μ hl feeds_of (fun d hd => ?_) ?_
  · tm_at "w"
    refine w_ret ?_
    refine ⟨rfl, ?_⟩
    refine c2T ?_
    have hn := h d hd
    cases d <;> first | (cases hn; done) | skip
    · tm_at "w"
      refine sp_within rfl ⟨rfl, rfl⟩
    · tm_at "w"
      refine sp_within rfl ⟨rfl, rfl⟩
  · rw [List.filter_eq_self.mpr (fun _ _ => rfl), show (xs.map fun d => D.bl (withB lo hi d)) = (xs.map (withB lo hi)).map D.bl by rw [List.map_map]; rfl]
    refine w_allI ?_
    rw [all_map_bl]
    tm_at "w"
    exact q
theorem sp_numbersL {n : Nat} {xs : List D} {lo hi : Int} (h : μ[n]? = some (.lst xs)) (q : Q (.bl false) μ) : Wp (callN fns (k + 3) 2 [.loc n, .int lo, .int hi] μ) Q E := by
  refine w_fn rfl rfl ?_
  unfold fis_numbers dis_numbers
  tm_at "s"
  tm_at "w"
  refine w_isQ ?_
  rw [kd_loc h]
  refine oq ?_
  tm_at "w"
  exact q
/-! ### checks -/
/-- the moves that are let -/
def movesB : D → Store → Prop := fun d μ => ∃ xs, d = .tup xs ∧ (∀ x ∈ xs, num x = true) ∧ xs.length < lineN
theorem sp_check_moves {ms : List Int} (h : ∀ m ∈ ms, -1000000000000000000000000000000 ≤ m ∧ m ≤ 1000000000000000000000000000000) (hl : ms.length ≤ 64) (q : Q .non μ) : Wp (callN fns (k + 4) 3 [.tup (ms.map .int)] μ) Q E := by
  refine w_fn rfl rfl ?_
  unfold fcheck_moves dcheck_moves
  tm_at "s"
  tm_at "w"
  refine sp_numbersT (fun x hx => ?_) (by rw [List.length_map]; exact Nat.lt_of_le_of_lt hl (by decide)) ?_
  · obtain ⟨m, _, rfl⟩ := List.mem_map.mp hx
    rfl
  · have e : ((ms.map D.int).all (withB (-1000000000000000000000000000000) 1000000000000000000000000000000)) = true := by
      rw [List.all_eq_true]
      intro x hx
      obtain ⟨m, hm, rfl⟩ := List.mem_map.mp hx
      have := h m hm
      simp [withB, this]
    rw [e]
    tm_at "w"
    rw [List.length_map]
    refine c2D (fun h => ?_) (fun h => ?_)
    · omega
    · tm_at "w"
      exact q
theorem sp_check_movesX {xs : List D} (hn : ∀ x ∈ xs, num x = true) (hl : xs.length < lineN) (h : xs.all (withB (-1000000000000000000000000000000) 1000000000000000000000000000000) = false ∨ 64 < xs.length) (q : E 2 [] μ) : Wp (callN fns (k + 4) 3 [.tup xs] μ) Q E := by
  refine w_fn rfl rfl ?_
  unfold fcheck_moves dcheck_moves
  tm_at "s"
  tm_at "w"
  refine sp_numbersT hn hl ?_
  cases e : xs.all (withB (-1000000000000000000000000000000) 1000000000000000000000000000000) with
  | false =>
    tm_at "w"
    exact q
  | true =>
    have h : 64 < xs.length := h.resolve_left (by rw [e]; simp)
    tm_at "w"
    refine c2D (fun _ => ?_) (fun z => ?_)
    · tm_at "w"
      exact q
    · omega
theorem sp_check_movesL {n : Nat} {xs : List D} (h : μ[n]? = some (.lst xs)) (q : E 2 [] μ) : Wp (callN fns (k + 4) 3 [.loc n] μ) Q E := by
  refine w_fn rfl rfl ?_
  unfold fcheck_moves dcheck_moves
  tm_at "s"
  tm_at "w"
  refine sp_numbersL h ?_
  tm_at "w"
  exact q
theorem sp_check_bounds {lo hi : Int} (h1 : -1000000000000000000000000000000 ≤ lo) (h2 : lo ≤ hi) (h3 : hi ≤ 1000000000000000000000000000000) (q : Q .non μ) : Wp (callN fns (k + 3) 4 [.int lo, .int hi] μ) Q E := by
  refine w_fn rfl rfl ?_
  unfold fcheck_bounds dcheck_bounds
  tm_at "s"
  tm_at "w"
  refine sp_within rfl ?_
  rw [show withB (-1000000000000000000000000000000) 1000000000000000000000000000000 (.int lo) = true by simp only [withB, Bool.and_eq_true, decide_eq_true_eq]; omega]
  tm_at "w"
  refine sp_within rfl ?_
  rw [show withB lo 1000000000000000000000000000000 (.int hi) = true by simp only [withB, Bool.and_eq_true, decide_eq_true_eq]; omega]
  tm_at "w"
  exact q
theorem sp_check_boundsX {a b : D} (ha : num a = true) (hb : num b = true) (h : withB (-1000000000000000000000000000000) 1000000000000000000000000000000 a = false ∨ ∃ lo, a = .int lo ∧ withB lo 1000000000000000000000000000000 b = false) (q : E 2 [] μ) : Wp (callN fns (k + 3) 4 [a, b] μ) Q E := by
  refine w_fn rfl rfl ?_
  unfold fcheck_bounds dcheck_bounds
  tm_at "s"
  cases a <;> first | (cases ha; done) | skip
  · cases b <;> first | (cases hb; done) | skip
    all_goals
      tm_at "w"
      refine sp_within rfl ?_
      tm_at "w"
      refine c2F ?_
      tm_at "w"
      exact q
  · rename_i lo
    cases e : withB (-1000000000000000000000000000000) 1000000000000000000000000000000 (.int lo) with
    | false =>
      cases b <;> first | (cases hb; done) | skip
      all_goals
        tm_at "w"
        refine sp_within rfl ?_
        rw [e]
        tm_at "w"
        exact q
    | true =>
      obtain ⟨lo', e1, e2⟩ := h.resolve_left (by rw [e]; simp)
      cases e1
      cases b <;> first | (cases hb; done) | skip
      all_goals
        tm_at "w"
        refine sp_within rfl ?_
        rw [e]
        tm_at "w"
        refine sp_within rfl ?_
        rw [e2]
        tm_at "w"
        exact q
theorem sp_check_start {lo hi x : Int} (h1 : lo ≤ x) (h2 : x ≤ hi) (q : Q .non μ) : Wp (callN fns (k + 3) 5 [.int lo, .int hi, .int x] μ) Q E := by
  refine w_fn rfl rfl ?_
  unfold fcheck_start dcheck_start
  tm_at "s"
  tm_at "w"
  refine sp_within rfl ?_
  rw [show withB lo hi (.int x) = true by simp only [withB, Bool.and_eq_true, decide_eq_true_eq]; omega]
  tm_at "w"
  exact q
theorem sp_check_startX {lo hi : Int} {a : D} (ha : num a = true) (h : withB lo hi a = false) (q : E 2 [] μ) : Wp (callN fns (k + 3) 5 [.int lo, .int hi, a] μ) Q E := by
  refine w_fn rfl rfl ?_
  unfold fcheck_start dcheck_start
  tm_at "s"
  cases a <;> first | (cases ha; done) | skip
  all_goals
    tm_at "w"
    refine sp_within rfl ?_
    rw [h]
    tm_at "w"
    exact q
end
end K93

set_option Elab.async false
set_option linter.all false
set_option maxRecDepth 100000
set_option maxHeartbeats 0
namespace K93
open PySem PySem.Spec Mini

local macro_rules | `(tactic| tm_at "m") => `(tactic| first
  | with_reducible refine w_seq1 ?_
  | with_reducible refine w_seq ?_
  | with_reducible refine sq_nx ?_
  | with_reducible refine sq_rt ?_
  | with_reducible refine sq_ex ?_
  | with_reducible refine sq_ct ?_
  | with_reducible refine sq_bk ?_
  | ((with_reducible refine w_varQ ?_); first | refine vq_int ?_ | refine vq_tup ?_ | refine vq_loc ?_ | refine vq_bl ?_ | refine vq_rol ?_ | refine vq_str ?_ | refine vq_non ?_)
  | with_reducible refine w_K ?_
  | with_reducible refine c2T ?_
  | with_reducible refine c2F ?_
  | with_reducible refine c2N ?_
  | with_reducible refine blk ?_
  | with_reducible refine intk ?_
  | with_reducible refine w_asg ?_
  | with_reducible refine w_gN ?_
  | with_reducible refine w_sret ?_
  | with_reducible refine w_sif ?_
  | with_reducible refine w_tcmp ?_
  | with_reducible refine w_cmp ?_
  | with_reducible refine w_2 ?_
  | with_reducible refine w_1 ?_
  | with_reducible refine w_call ?_
  | with_reducible refine w_cons ?_
  | with_reducible refine w_nil ?_
  | with_reducible refine w_B ?_
  | with_reducible refine w_add ?_
  | with_reducible refine w_sub ?_
  | with_reducible refine w_neg ?_
  | ((with_reducible refine w_mul ?_ ?_); first | exact .inl (by decide) | exact .inr (.inl (by decide)))
  | ((with_reducible refine w_div ?_ ?_); exact ⟨by decide, by decide⟩)
  | ((with_reducible refine w_mod ?_ ?_); decide)
  | with_reducible refine w_pow30 ?_
  | with_reducible refine w_pow18 ?_
  | with_reducible refine w_eqI ?_
  | with_reducible refine w_neI ?_
  | with_reducible refine w_ltI ?_
  | with_reducible refine w_leI ?_
  | with_reducible refine w_gtI ?_
  | with_reducible refine w_geI ?_
  | with_reducible refine w_truB ?_
  | with_reducible refine w_tval ?_
  | with_reducible refine w_tnot ?_
  | with_reducible refine w_tand ?_
  | with_reducible refine w_tor ?_
  | with_reducible refine w_cif ?_
  | with_reducible refine w_cand ?_
  | with_reducible refine w_cor ?_
  | with_reducible refine w_cnot ?_
  | with_reducible refine w_chn ?_
  | with_reducible refine w_tchn ?_
  | with_reducible refine w_tup ?_
  | ((with_reducible refine lenK ?_ ?_); exact rfl)
  | with_reducible refine w_is1 ?_
  | ((with_reducible refine w_isQ ?_); refine oq ?_)
  | with_reducible refine w_is ?_
  | ((with_reducible refine w_isQs ?_); refine oq ?_)
  | with_reducible refine w_minI ?_
  | with_reducible refine w_maxI ?_
  | with_reducible refine w_absI ?_
  | with_reducible refine w_intI ?_
  | with_reducible refine w_lenT ?_
  | with_reducible refine w_lenR ?_
  | with_reducible refine w_sl ?_
  | with_reducible refine w_pno ?_
  | with_reducible refine w_psome ?_
  | with_reducible refine w_slT ?_
  | with_reducible refine w_sexp ?_
  | with_reducible refine w_sretN ?_
  | with_reducible refine w_raise ?_
  | with_reducible refine w_snil ?_
  | with_reducible refine w_brk ?_
  | with_reducible refine w_cnt ?_
  | with_reducible refine w_for ?_
  | with_reducible refine w_iV ?_
  | with_reducible refine w_srcT ?_
  | with_reducible refine w_srcR ?_
  | with_reducible refine w_rng1' ?_
  | with_reducible refine w_BL ?_
  | with_reducible refine w_Lc ?_
  | with_reducible refine w_lcI ?_
  | ((with_reducible refine w_gT ?_ ?_); exact rfl)
  | with_reducible refine w_gsCons ?_
  | with_reducible refine w_gsNil ?_
  | with_reducible refine w_gI ?_
  | with_reducible refine w_M ?_
  | with_reducible refine w_lst ?_
  | with_reducible refine w_try ?_
  | with_reducible refine tk_nx ?_
  | with_reducible refine tk_ct ?_
  | with_reducible refine tk_bk ?_
  | with_reducible refine tk_rt ?_
  | with_reducible refine tk_ex ?_
  | with_reducible refine fk_nx ?_
  | with_reducible refine fk_rt ?_
  | with_reducible refine fk_ex ?_
  | with_reducible refine try_rt ?_
  | with_reducible refine try_nx ?_
  | with_reducible refine cat_rt ?_
  | with_reducible refine ek ?_
  | with_reducible refine retQ_same ?_
  | with_reducible refine retE_same ?_)
local macro_rules | `(tactic| tm_at "s") => `(tactic| simp only [Mini.start, List.map_cons, List.map_nil, List.length_cons, List.length_nil, List.replicate, List.cons_append, List.nil_append, Nat.reduceAdd, Nat.reduceSub, List.append_nil])
local macro_rules | `(tactic| tm_at "w") => `(tactic| repeat tm_at "m")

section
variable {Q : D → Store → Prop} {E : Nat → List D → Store → Prop} {μ : Store} {k : Nat}
abbrev intsT (ms : List Int) : D := .tup (ms.map .int)
abbrev trD (c : Tr) : D := .tup [.int c.1, .int c.2.1, .int c.2.2]
/-- a number within all bounds -/
abbrev Big (m : Int) : Prop := -1000000000000000000000000000000 ≤ m ∧ m ≤ 1000000000000000000000000000000
theorem take_snoc {α : Type} {xs : List α} {i : Nat} {x : α} (h : xs[i]? = some x) : xs.take (i + 1) = xs.take i ++ [x] := by
  rw [List.take_succ, h]
  rfl
theorem map_at {ms : List Int} {i : Nat} {d : D} (h : (ms.map D.int)[i]? = some d) : ∃ m, ms[i]? = some m ∧ d = .int m := by
  rw [List.getElem?_map] at h
  obtain ⟨m, h1, h2⟩ := Option.map_eq_some_iff.mp h
  exact ⟨m, h1, h2.symm⟩
theorem sp_made {a l m : Int} (q : Q (trD (mk a l m)) μ) : Wp (callN fns (k + 1) 8 [.int a, .int l, .int m] μ) Q E := by
  refine w_fn rfl rfl ?_
  unfold fmade_clamp dmade_clamp
  tm_at "s"
  tm_at "w"
  unfold mk at q
  refine c2D (fun h => ?_) (fun h => ?_)
  · rw [if_pos h] at q
    tm_at "w"
    exact q
  · rw [if_neg h] at q
    tm_at "w"
    exact q
theorem sp_apply {c : Tr} {x : Int} (q : Q (.int (app c x)) μ) : Wp (callN fns (k + 2) 10 [trD c, .int x] μ) Q E := by
  refine w_fn rfl rfl ?_
  unfold fapply_clamp dapply_clamp
  tm_at "s"
  tm_at "w"
  refine w_ixT rfl ?_
  tm_at "w"
  refine w_ixT rfl ?_
  tm_at "w"
  refine w_ixT rfl ?_
  tm_at "w"
  refine sp_middle ?_
  tm_at "w"
  exact q
theorem sp_join {c d : Tr} (q : Q (trD (join c d)) μ) : Wp (callN fns (k + 3) 11 [trD c, trD d] μ) Q E := by
  refine w_fn rfl rfl ?_
  unfold fjoin_clamps djoin_clamps
  tm_at "s"
  tm_at "w"
  refine w_ixT rfl ?_
  tm_at "w"
  refine w_ixT rfl ?_
  tm_at "w"
  refine w_ixT rfl ?_
  tm_at "w"
  refine sp_apply ?_
  tm_at "w"
  refine w_ixT rfl ?_
  tm_at "w"
  refine sp_apply ?_
  tm_at "w"
  refine sp_made ?_
  tm_at "w"
  exact q
theorem sp_clamped {lo hi x : Int} {ms : List Int} (h1 : -1000000000000000000000000000000 ≤ lo) (h2 : lo ≤ hi) (h3 : hi ≤ 1000000000000000000000000000000) (hx : lo ≤ x ∧ x ≤ hi) (hm : ∀ m ∈ ms, Big m) (hl : ms.length ≤ 64) (q : Q (.int (held lo hi x ms)) μ) : Wp (callN fns (k + 5) 7 [.int lo, .int hi, .int x, intsT ms] μ) Q E := by
  refine w_fn rfl rfl ?_
  unfold fclamped dclamped
  tm_at "s"
  tm_at "w"
  refine sp_check_bounds h1 h2 h3 ?_
  tm_at "w"
  refine sp_check_start hx.1 hx.2 ?_
  tm_at "w"
  refine sp_check_moves hm hl ?_
  tm_at "w"
  refine w_forI (ms.map .int) (fun i σ μ' => μ' = μ ∧ ∃ mv, σ = [some (.int lo), some (.int hi), some (.int (held lo hi x (ms.take i))), some (intsT ms), mv]) (by rw [List.length_map]; omega) (fun i σ μ' _ => feeds_of) (fun i d σ μ' hd ⟨e1, mv, e2⟩ => ?_) (fun σ μ' ⟨e1, mv, e2⟩ => ?_) ⟨rfl, _, rfl⟩
  · obtain ⟨m, hm, rfl⟩ := map_at hd
    subst e1 e2
    tm_at "w"
    refine sp_middle ?_
    tm_at "w"
    refine ⟨rfl, some (.int m), ?_⟩
    rw [take_snoc hm, held_append]
    rfl
  · subst e1 e2
    rw [List.length_map, List.take_length]
    tm_at "w"
    exact q
theorem sp_clamp {lo hi : Int} {ms : List Int} (h1 : -1000000000000000000000000000000 ≤ lo) (h2 : lo ≤ hi) (h3 : hi ≤ 1000000000000000000000000000000) (hm : ∀ m ∈ ms, Big m) (hl : ms.length ≤ 64) (q : Q (trD (triple lo hi ms)) μ) : Wp (callN fns (k + 5) 9 [.int lo, .int hi, intsT ms] μ) Q E := by
  refine w_fn rfl rfl ?_
  unfold fclamp dclamp
  tm_at "s"
  tm_at "w"
  refine sp_check_bounds h1 h2 h3 ?_
  tm_at "w"
  refine sp_check_moves hm hl ?_
  tm_at "w"
  refine sp_made ?_
  tm_at "w"
  refine w_forI (ms.map .int) (fun i σ μ' => μ' = μ ∧ ∃ mv sv, σ = [some (.int lo), some (.int hi), some (intsT ms), some (trD (clampL lo hi (ms.take i))), mv, sv]) (by rw [List.length_map]; omega) (fun i σ μ' _ => feeds_of) (fun i d σ μ' hd ⟨e1, mv, sv, e2⟩ => ?_) (fun σ μ' ⟨e1, mv, sv, e2⟩ => ?_) ⟨rfl, _, _, rfl⟩
  · obtain ⟨m, hm, rfl⟩ := map_at hd
    subst e1 e2
    tm_at "w"
    refine sp_middle ?_
    tm_at "w"
    refine sp_middle ?_
    tm_at "w"
    refine sp_made ?_
    tm_at "w"
    refine sp_join ?_
    tm_at "w"
    refine ⟨rfl, some (.int m), some (trD (mk m (cl lo hi (lo + m)) (cl lo hi (hi + m)))), ?_⟩
    rw [take_snoc hm]
    unfold clampL
    rw [List.foldl_append]
    rfl
  · subst e1 e2
    rw [List.length_map, List.take_length, clampL_eq h2]
    tm_at "w"
    exact q
theorem sp_held {lo hi x : Int} {ms : List Int} (h : lo ≤ hi) (hl : ms.length < 1000000000) (q : Q (.int (held lo hi x ms)) μ) : Wp (callN fns (k + 1) 20 [.int lo, .int hi, .int x, intsT ms] μ) Q E := by
  refine w_fn rfl rfl ?_
  unfold f_law_held d_law_held
  tm_at "s"
  tm_at "w"
  refine w_forI (ms.map .int) (fun i σ μ' => μ' = μ ∧ ∃ mv, σ = [some (.int lo), some (.int hi), some (.int x), some (intsT ms), some (.int (held lo hi x (ms.take i))), mv]) (by rw [List.length_map]; exact hl) (fun i σ μ' _ => feeds_of) (fun i d σ μ' hd ⟨e1, mv, e2⟩ => ?_) (fun σ μ' ⟨e1, mv, e2⟩ => ?_) ⟨rfl, _, rfl⟩
  · obtain ⟨m, hm, rfl⟩ := map_at hd
    subst e1 e2
    rw [take_snoc hm, held_append]
    have e : held lo hi (held lo hi x (ms.take i)) [m] = cl lo hi (held lo hi x (ms.take i) + m) := rfl
    rw [e]
    generalize held lo hi x (ms.take i) = y
    tm_at "w"
    refine c2D (fun g1 => ?_) (fun g1 => ?_)
    · tm_at "w"
      refine c2D (fun g2 => ?_) (fun g2 => ?_)
      · omega
      · tm_at "w"
        refine ⟨rfl, some (.int m), ?_⟩
        rw [show cl lo hi (y + m) = lo by unfold cl; omega]
        rfl
    · tm_at "w"
      refine c2D (fun g2 => ?_) (fun g2 => ?_)
      · tm_at "w"
        refine ⟨rfl, some (.int m), ?_⟩
        rw [show cl lo hi (y + m) = hi by unfold cl; omega]
        rfl
      · tm_at "w"
        refine ⟨rfl, some (.int m), ?_⟩
        rw [show cl lo hi (y + m) = y + m by unfold cl; omega]
        rfl
  · subst e1 e2
    rw [List.length_map, List.take_length]
    tm_at "w"
    exact q
theorem sp_triple {lo hi : Int} {ms : List Int} (h : lo ≤ hi) (hl : ms.length < 1000000000) (q : Q (trD (triple lo hi ms)) μ) : Wp (callN fns (k + 2) 21 [.int lo, .int hi, intsT ms] μ) Q E := by
  refine w_fn rfl rfl ?_
  unfold f_law_triple d_law_triple
  tm_at "s"
  tm_at "w"
  refine sp_held h hl ?_
  tm_at "w"
  refine sp_held h hl ?_
  tm_at "w"
  unfold triple mk at q
  refine c2D (fun g => ?_) (fun g => ?_)
  · rw [if_pos g] at q
    tm_at "w"
    exact q
  · rw [if_neg g] at q
    tm_at "w"
    refine w_sumT ?_
    tm_at "w"
    exact q
/-! ### the source of the digits -/
abbrev S3 : Type := Int × Int × Int
abbrev srcO (s : S3) : Ob := .lst [.int s.1, .int s.2.1, .int s.2.2]
theorem ixL3 {p : Nat} {a b c : D} {i : Int} {d : D} (h : μ[p]? = some (.lst [a, b, c])) (e : L2.atI [a, b, c] i = some d) (q : Q d μ) : Wp (ixD (.loc p) (.int i) μ) Q E := w_ixL h e q
theorem set_at {p : Nat} {o o' : Ob} (h : μ[p]? = some o) : (μ.set p o')[p]? = some o' := by
  obtain ⟨hl, _⟩ := List.getElem?_eq_some_iff.mp h
  exact List.getElem?_set_self hl
theorem sp_draw {p : Nat} {s : S3} {many : Int} (h : μ[p]? = some (srcO s)) (hm : 1 ≤ many) (hl : many.natAbs.log2 < 9000) (q : ∀ (d : Int) (s' : S3), 0 ≤ d → d < many → Q (.int d) (μ.set p (srcO s'))) : Wp (callN fns (k + 1) 14 [.loc p, .int many] μ) Q E := by
  refine w_fn rfl rfl ?_
  unfold f_law_draw d_law_draw
  tm_at "s"
  tm_at "w"
  refine ixL3 h rfl ?_
  tm_at "w"
  refine c2D (fun g => ?_) (fun g => ?_)
  · tm_at "w"
    refine ixL3 h rfl ?_
    tm_at "w"
    refine w_mod (by omega) ?_
    tm_at "w"
    refine ixL3 h rfl ?_
    tm_at "w"
    refine w_div ⟨by omega, hl⟩ ?_
    tm_at "w"
    refine w_setD h rfl ?_
    tm_at "w"
    refine retQ_len (by rw [List.length_set]) ?_
    exact q _ (s.1 / many, s.2.1, s.2.2) (Int.emod_nonneg _ (by omega)) (Int.emod_lt_of_pos _ (by omega))
  · tm_at "w"
    refine ixL3 h rfl ?_
    tm_at "w"
    refine w_setD h rfl ?_
    tm_at "w"
    have h' := set_at (o' := .lst ([D.int s.1, D.int s.2.1, D.int s.2.2].set 2 (.int (s.2.2 + 1)))) h
    refine ixL3 h' rfl ?_
    tm_at "w"
    refine ixL3 h' rfl ?_
    tm_at "w"
    refine ixL3 h' rfl ?_
    tm_at "w"
    refine w_mul (.inl ⟨?_, ?_⟩) ?_
    · show -(2 ^ 64) < ((s.2.1 * 48271 + (s.2.2 + 1) * 69621 + 12345) % 2147483647) / 7
      omega
    · show ((s.2.1 * 48271 + (s.2.2 + 1) * 69621 + 12345) % 2147483647) / 7 < 2 ^ 64
      omega
    tm_at "w"
    refine w_mod (by omega) ?_
    tm_at "w"
    refine retQ_len (by rw [List.length_set]) ?_
    exact q _ (s.1, s.2.1, s.2.2 + 1) (Int.emod_nonneg _ (by omega)) (Int.emod_lt_of_pos _ (by omega))
end
end K93

set_option Elab.async false
set_option linter.all false
set_option maxRecDepth 100000
set_option maxHeartbeats 0
namespace K93
open PySem PySem.Spec Mini

local macro_rules | `(tactic| tm_at "m") => `(tactic| first
  | with_reducible refine w_seq1 ?_
  | with_reducible refine w_seq ?_
  | with_reducible refine sq_nx ?_
  | with_reducible refine sq_rt ?_
  | with_reducible refine sq_ex ?_
  | with_reducible refine sq_ct ?_
  | with_reducible refine sq_bk ?_
  | ((with_reducible refine w_varQ ?_); first | refine vq_int ?_ | refine vq_tup ?_ | refine vq_loc ?_ | refine vq_bl ?_ | refine vq_rol ?_ | refine vq_str ?_ | refine vq_non ?_)
  | with_reducible refine w_K ?_
  | with_reducible refine c2T ?_
  | with_reducible refine c2F ?_
  | with_reducible refine c2N ?_
  | with_reducible refine blk ?_
  | with_reducible refine intk ?_
  | with_reducible refine w_asg ?_
  | with_reducible refine w_gN ?_
  | with_reducible refine w_sret ?_
  | with_reducible refine w_sif ?_
  | with_reducible refine w_tcmp ?_
  | with_reducible refine w_cmp ?_
  | with_reducible refine w_2 ?_
  | with_reducible refine w_1 ?_
  | with_reducible refine w_call ?_
  | with_reducible refine w_cons ?_
  | with_reducible refine w_nil ?_
  | with_reducible refine w_B ?_
  | with_reducible refine w_add ?_
  | with_reducible refine w_sub ?_
  | with_reducible refine w_neg ?_
  | ((with_reducible refine w_mul ?_ ?_); first | exact .inl (by decide) | exact .inr (.inl (by decide)))
  | ((with_reducible refine w_div ?_ ?_); exact ⟨by decide, by decide⟩)
  | ((with_reducible refine w_mod ?_ ?_); decide)
  | with_reducible refine w_pow30 ?_
  | with_reducible refine w_pow18 ?_
  | with_reducible refine w_eqI ?_
  | with_reducible refine w_neI ?_
  | with_reducible refine w_ltI ?_
  | with_reducible refine w_leI ?_
  | with_reducible refine w_gtI ?_
  | with_reducible refine w_geI ?_
  | with_reducible refine w_truB ?_
  | with_reducible refine w_tval ?_
  | with_reducible refine w_tnot ?_
  | with_reducible refine w_tand ?_
  | with_reducible refine w_tor ?_
  | with_reducible refine w_cif ?_
  | with_reducible refine w_cand ?_
  | with_reducible refine w_cor ?_
  | with_reducible refine w_cnot ?_
  | with_reducible refine w_chn ?_
  | with_reducible refine w_tchn ?_
  | with_reducible refine w_tup ?_
  | ((with_reducible refine lenK ?_ ?_); exact rfl)
  | with_reducible refine w_is1 ?_
  | ((with_reducible refine w_isQ ?_); refine oq ?_)
  | with_reducible refine w_is ?_
  | ((with_reducible refine w_isQs ?_); refine oq ?_)
  | with_reducible refine w_minI ?_
  | with_reducible refine w_maxI ?_
  | with_reducible refine w_absI ?_
  | with_reducible refine w_intI ?_
  | with_reducible refine w_lenT ?_
  | with_reducible refine w_lenR ?_
  | with_reducible refine w_sl ?_
  | with_reducible refine w_pno ?_
  | with_reducible refine w_psome ?_
  | with_reducible refine w_slT ?_
  | with_reducible refine w_sexp ?_
  | with_reducible refine w_sretN ?_
  | with_reducible refine w_raise ?_
  | with_reducible refine w_snil ?_
  | with_reducible refine w_brk ?_
  | with_reducible refine w_cnt ?_
  | with_reducible refine w_for ?_
  | with_reducible refine w_iV ?_
  | with_reducible refine w_srcT ?_
  | with_reducible refine w_srcR ?_
  | with_reducible refine w_rng1' ?_
  | with_reducible refine w_BL ?_
  | with_reducible refine w_Lc ?_
  | with_reducible refine w_lcI ?_
  | ((with_reducible refine w_gT ?_ ?_); exact rfl)
  | with_reducible refine w_gsCons ?_
  | with_reducible refine w_gsNil ?_
  | with_reducible refine w_gI ?_
  | with_reducible refine w_M ?_
  | with_reducible refine w_lst ?_
  | with_reducible refine w_try ?_
  | with_reducible refine tk_nx ?_
  | with_reducible refine tk_ct ?_
  | with_reducible refine tk_bk ?_
  | with_reducible refine tk_rt ?_
  | with_reducible refine tk_ex ?_
  | with_reducible refine fk_nx ?_
  | with_reducible refine fk_rt ?_
  | with_reducible refine fk_ex ?_
  | with_reducible refine try_rt ?_
  | with_reducible refine try_nx ?_
  | with_reducible refine cat_rt ?_
  | with_reducible refine ek ?_
  | with_reducible refine retQ_same ?_
  | with_reducible refine retE_same ?_)
local macro_rules | `(tactic| tm_at "s") => `(tactic| simp only [Mini.start, List.map_cons, List.map_nil, List.length_cons, List.length_nil, List.replicate, List.cons_append, List.nil_append, Nat.reduceAdd, Nat.reduceSub, List.append_nil])
local macro_rules | `(tactic| tm_at "w") => `(tactic| repeat tm_at "m")

section
variable {Q : D → Store → Prop} {E : Nat → List D → Store → Prop} {μ : Store} {k : Nat}
/-- a further digit -/
theorem sp_drawS {p : Nat} {o : Ob} {s : S3} {many : Int} (h : μ[p]? = some o) (hm : 1 ≤ many) (hl : many ≤ 1000000000000000000000000000000000000) (q : ∀ (d : Int) (s' : S3), 0 ≤ d → d < many → Q (.int d) (μ.set p (srcO s'))) : Wp (callN fns (k + 1) 14 [.loc p, .int many] (μ.set p (srcO s))) Q E :=
  sp_draw (set_get h) hm (log_ok (by omega) (by omega)) fun d s' h1 h2 => by
    rw [List.set_set]
    exact q d s' h1 h2
theorem sp_pickS {p : Nat} {o : Ob} {s : S3} {xs : List D} (h : μ[p]? = some o) (hm : 1 ≤ xs.length) (hl : xs.length ≤ 1000) (q : ∀ (i : Nat) (x : D) (s' : S3), xs[i]? = some x → Q x (μ.set p (srcO s'))) : Wp (callN fns (k + 2) 15 [.loc p, .tup xs] (μ.set p (srcO s))) Q E := by
  refine w_fn rfl rfl ?_
  unfold f_law_pick d_law_pick
  tm_at "s"
  tm_at "w"
  refine sp_drawS h (by omega) (by omega) fun d s' h1 h2 => ?_
  have hlt : d.toNat < xs.length := by omega
  refine w_ixT (d := xs[d.toNat]) (by rw [atI_of h1 h2, List.getElem?_eq_getElem hlt]) ?_
  tm_at "w"
  refine retQ_len (by rw [List.length_set, List.length_set]) ?_
  exact q d.toNat _ s' (List.getElem?_eq_getElem hlt)
theorem sp_source {ns : List Int} {place : Int} (hl : ns.length ≤ 63) (hp : 0 ≤ place ∧ place ≤ 5) (q : ∀ (as bs : List Int) (s : S3), Q (.loc (μ.length + 2)) (μ ++ [.lst (as.map .int), .lst (bs.map .int), srcO s])) : Wp (callN fns (k + 1) 13 [scriptD ns, .int place] μ) Q E := by
  refine w_fn rfl rfl ?_
  unfold f_law_source d_law_source scriptD
  tm_at "s"
  tm_at "w"
  refine w_slR ?_
  have e0 : cutL (ns.map D.int) none (some 63) = ns.map D.int := by
    rw [cutL_to (by decide)]
    exact List.take_of_length_le (by rw [List.length_map]; exact hl)
  rw [e0]
  refine w_srcL (xs := ns.map D.int) (by simp) ?_
  have f1 : Feeds (srcL μ.length) (ns.map D.int) (μ ++ [.lst (ns.map D.int)]) := feeds_L (by simp)
  refine w_lcP (fun _ => true) (fun d => d) (μ ++ [.lst (ns.map D.int)]) (by rw [List.length_map]; exact Nat.lt_of_le_of_lt hl (by decide)) f1 (fun d hd => ?_) ?_
  · obtain ⟨n, _, rfl⟩ := List.mem_map.mp hd
    tm_at "w"
    refine w_ret ⟨rfl, c2T ?_⟩
    tm_at "w"
    exact ⟨rfl, rfl⟩
  rw [List.filter_eq_self.mpr (fun _ _ => rfl), List.map_id', List.append_assoc]
  have hlen : (μ ++ [Ob.lst (ns.map D.int)]).length = μ.length + 1 := by simp
  rw [hlen]
  generalize hμ : μ ++ ([Ob.lst (ns.map D.int)] ++ [Ob.lst (ns.map D.int)]) = μ2
  have g1 : μ2[μ.length + 1]? = some (.lst (ns.map D.int)) := by rw [← hμ]; simp
  have gl : μ2.length = μ.length + 2 := by rw [← hμ]; simp
  have fin : ∀ (cell : Int) (kv : Option D) (Q' : D → Store → Prop), (∀ s : S3, Q' (.loc (μ.length + 2)) (μ2 ++ [srcO s])) → True := fun _ _ _ _ => trivial
  have q' : ∀ s : S3, retQ μ.length (.loc (μ.length + 2)) (μ2 ++ [srcO s]) Q := fun s => by
    refine ⟨fun z => ?_, fun _ => ?_⟩
    · have : μ.length + 2 < μ.length := of_decide_eq_true z
      omega
    · rw [← hμ]
      simpa using q ns ns s
  tm_at "w"
  refine w_len g1 ?_
  tm_at "w"
  refine c2D (fun g => ?_) (fun g => ?_)
  · tm_at "w"
    rw [List.length_map] at g
    have hlt : place.toNat < ns.length := by omega
    refine w_ixL (d := .int ns[place.toNat]) g1 (by rw [atI_of hp.1 (by rw [List.length_map]; exact g), List.getElem?_map, List.getElem?_eq_getElem hlt]; rfl) ?_
    generalize ns[place.toNat] = cell
    tm_at "w"
    refine c2D (fun g2 => ?_) (fun g2 => ?_)
    · tm_at "w"
      rw [gl]
      exact q' (_, _, _)
    · tm_at "w"
      rw [gl]
      exact q' (_, _, _)
  · tm_at "w"
    refine w_srcL g1 ?_
    refine w_lcP (fun _ => true) (fun d => match d with
      | .int n => .int (n % 1000003)
      | d => d) μ2 (by rw [List.length_map]; exact Nat.lt_of_le_of_lt hl (by decide)) (feeds_L g1) (fun d hd => ?_) ?_
    · obtain ⟨n, _, rfl⟩ := List.mem_map.mp hd
      tm_at "w"
      refine w_ret ⟨rfl, c2T ?_⟩
      tm_at "w"
      exact ⟨rfl, rfl⟩
    rw [List.filter_eq_self.mpr (fun _ _ => rfl), List.map_map]
    have e2 : (ns.map ((fun d : D => match d with
      | .int n => .int (n % 1000003)
      | d => d) ∘ D.int)) = (ns.map (· % 1000003)).map D.int := by
      rw [List.map_map]
      rfl
    rw [e2]
    refine w_sumI ?_
    generalize (ns.map (· % 1000003)).sum = z
    tm_at "w"
    refine w_len g1 ?_
    tm_at "w"
    refine c2D (fun g2 => ?_) (fun g2 => ?_)
    · tm_at "w"
      rw [gl]
      exact q' (_, _, _)
    · tm_at "w"
      rw [gl]
      exact q' (_, _, _)
theorem sp_bounds {p : Nat} {s : S3} (h : μ[p]? = some (srcO s)) (q : ∀ (lo hi : Int) (s' : S3), -1000000000000000000000000000000 ≤ lo → lo ≤ hi → hi ≤ 1000000000000000000000000000000 → Q (.tup [.int lo, .int hi]) (μ.set p (srcO s'))) : Wp (callN fns (k + 2) 16 [.loc p] μ) Q E := by
  refine w_fn rfl rfl ?_
  have q' : ∀ (lo hi : Int) (s' : S3), -1000000000000000000000000000000 ≤ lo → lo ≤ hi → hi ≤ 1000000000000000000000000000000 → retQ μ.length (.tup [.int lo, .int hi]) (μ.set p (srcO s')) Q := fun lo hi s' h1 h2 h3 => retQ_len (by rw [List.length_set]) (q lo hi s' h1 h2 h3)
  generalize μ.length = nn at q' ⊢
  rw [← set_same h]
  unfold f_law_bounds d_law_bounds
  tm_at "s"
  tm_at "w"
  refine sp_drawS h (by decide) (by decide) fun d1 s1 a1 b1 => ?_
  tm_at "w"
  refine c2D (fun g => ?_) (fun g => ?_)
  · tm_at "w"
    refine sp_drawS h (by decide) (by decide) fun d2 s2 a2 b2 => ?_
    tm_at "w"
    refine sp_drawS h (by decide) (by decide) fun d3 s3 a3 b3 => ?_
    tm_at "w"
    exact q' _ _ _ (by omega) (by omega) (by omega)
  tm_at "w"
  refine c2D (fun g => ?_) (fun g => ?_)
  · tm_at "w"
    refine sp_drawS h (by decide) (by decide) fun d2 s2 a2 b2 => ?_
    tm_at "w"
    exact q' _ _ _ (by omega) (by omega) (by omega)
  tm_at "w"
  refine c2D (fun g => ?_) (fun g => ?_)
  · tm_at "w"
    refine sp_drawS h (by decide) (by decide) fun d2 s2 a2 b2 => ?_
    tm_at "w"
    refine sp_drawS h (by decide) (by decide) fun d3 s3 a3 b3 => ?_
    tm_at "w"
    exact q' _ _ _ (by omega) (by omega) (by omega)
  tm_at "w"
  refine c2D (fun g => ?_) (fun g => ?_)
  · tm_at "w"
    exact q' _ _ _ (by omega) (by omega) (by omega)
  tm_at "w"
  refine c2D (fun g => ?_) (fun g => ?_)
  · tm_at "w"
    refine sp_drawS h (by decide) (by decide) fun d2 s2 a2 b2 => ?_
    tm_at "w"
    refine sp_drawS h (by decide) (by decide) fun d3 s3 a3 b3 => ?_
    tm_at "w"
    refine sp_drawS h (by decide) (by decide) fun d4 s4 a4 b4 => ?_
    tm_at "w"
    refine c2D (fun g => ?_) (fun g => ?_)
    · tm_at "w"
      exact q' _ _ _ (by omega) (by omega) (by omega)
    · tm_at "w"
      exact q' _ _ _ (by omega) (by omega) (by omega)
  tm_at "w"
  refine sp_drawS h (by decide) (by decide) fun d2 s2 a2 b2 => ?_
  tm_at "w"
  refine sp_drawS h (by decide) (by decide) fun d3 s3 a3 b3 => ?_
  tm_at "w"
  refine q' _ _ _ ?_ ?_ ?_ <;> split <;> (try split) <;> omega
theorem sp_move {p : Nat} {o : Ob} {s : S3} {wide : Int} (h : μ[p]? = some o) (h1 : 0 ≤ wide) (h2 : wide ≤ 2000000000000000000000000000000) (q : ∀ (m : Int) (s' : S3), Big m → Q (.int m) (μ.set p (srcO s'))) : Wp (callN fns (k + 2) 17 [.loc p, .int wide] (μ.set p (srcO s))) Q E := by
  refine w_fn rfl rfl ?_
  have q' : ∀ (m : Int) (s' : S3), Big m → retQ (μ.set p (srcO s)).length (.int m) (μ.set p (srcO s')) Q := fun m s' h1 => retQ_len (by rw [List.length_set, List.length_set]) (q m s' h1)
  generalize (μ.set p (srcO s)).length = nn at q' ⊢
  unfold f_law_move d_law_move
  tm_at "s"
  tm_at "w"
  refine sp_drawS h (by decide) (by decide) fun d1 s1 a1 b1 => ?_
  tm_at "w"
  refine c2D (fun g => ?_) (fun g => ?_)
  · tm_at "w"
    refine sp_drawS h (by decide) (by decide) fun d2 s2 a2 b2 => ?_
    tm_at "w"
    exact q' _ _ ⟨by omega, by omega⟩
  have fin : ∀ (size : Int) (s2 : S3), -1 ≤ size → size ≤ 2000000000000000000000000000002 → Wp (sSeq (sAsg (gN 3) (cB bMin (aCons (cVar 3) (aCons (c2 powD (cK (.int 10)) (cK (.int 30))) aNil)))) (sSeq (sRet (cIf (tCmp .eq (cCall (callN fns (k + 1)) 14 (aCons (cVar 0) (aCons (cK (.int 2)) aNil))) (cK (.int 0))) (cVar 3) (c1 negD (cVar 3)))) sNil) [some (.loc p), some (.int wide), some (.int d1), some (.int size)] (μ.set p (srcO s2))) (fnK nn Q E) NoE := by
    intro size s2 u1 u2
    tm_at "w"
    refine sp_drawS h (by decide) (by decide) fun d3 s3 a3 b3 => ?_
    tm_at "w"
    refine c2D (fun g => ?_) (fun g => ?_)
    · tm_at "w"
      refine q' _ _ ⟨?_, ?_⟩ <;> split <;> omega
    · tm_at "w"
      refine q' _ _ ⟨?_, ?_⟩ <;> split <;> omega
  tm_at "w"
  refine c2D (fun g => ?_) (fun g => ?_)
  · tm_at "w"
    refine sp_drawS h (by decide) (by decide) fun d2 s2 a2 b2 => ?_
    tm_at "w"
    refine w_div ⟨by omega, log_ok (by omega) (by omega)⟩ ?_
    tm_at "w"
    refine sp_drawS h (by decide) (by decide) fun d3 s3 a3 b3 => ?_
    have e1 : 0 ≤ wide / (1 + d2) := Int.ediv_nonneg h1 (by omega)
    have e2 : wide / (1 + d2) ≤ wide := Int.ediv_le_self _ h1
    generalize wide / (1 + d2) = ww at e1 e2 ⊢
    with_reducible refine w_add ?_
    with_reducible refine w_K ?_
    with_reducible refine w_sub ?_
    with_reducible refine w_gN ?_
    refine fin _ _ (by omega) (by omega)
  tm_at "w"
  refine c2D (fun g => ?_) (fun g => ?_)
  · tm_at "w"
    refine sp_drawS h (by decide) (by decide) fun d2 s2 a2 b2 => ?_
    with_reducible refine w_sub ?_
    with_reducible refine w_gN ?_
    refine fin _ _ (by omega) (by omega)
  · tm_at "w"
    refine sp_drawS h (by decide) (by decide) fun d2 s2 a2 b2 => ?_
    with_reducible refine w_gN ?_
    refine fin _ _ (by omega) (by omega)
end
end K93

set_option Elab.async false
set_option linter.all false
set_option maxRecDepth 100000
set_option maxHeartbeats 0
namespace K93
open PySem PySem.Spec Mini

local macro_rules | `(tactic| tm_at "n") => `(tactic| first
  | with_reducible refine w_seq1 ?_
  | with_reducible refine w_seq ?_
  | with_reducible refine sq_rt ?_
  | with_reducible refine sq_ex ?_
  | with_reducible refine sq_ct ?_
  | with_reducible refine sq_bk ?_
  | ((with_reducible refine w_varQ ?_); first | refine vq_int ?_ | refine vq_tup ?_ | refine vq_loc ?_ | refine vq_bl ?_ | refine vq_rol ?_ | refine vq_str ?_ | refine vq_non ?_)
  | with_reducible refine w_K ?_
  | with_reducible refine c2T ?_
  | with_reducible refine c2F ?_
  | with_reducible refine c2N ?_
  | with_reducible refine blk ?_
  | with_reducible refine intk ?_
  | with_reducible refine w_asg ?_
  | with_reducible refine w_gN ?_
  | with_reducible refine w_sret ?_
  | with_reducible refine w_sif ?_
  | with_reducible refine w_tcmp ?_
  | with_reducible refine w_cmp ?_
  | with_reducible refine w_2 ?_
  | with_reducible refine w_1 ?_
  | with_reducible refine w_call ?_
  | with_reducible refine w_cons ?_
  | with_reducible refine w_nil ?_
  | with_reducible refine w_B ?_
  | with_reducible refine w_add ?_
  | with_reducible refine w_sub ?_
  | with_reducible refine w_neg ?_
  | ((with_reducible refine w_mul ?_ ?_); first | exact .inl (by decide) | exact .inr (.inl (by decide)))
  | ((with_reducible refine w_div ?_ ?_); exact ⟨by decide, by decide⟩)
  | ((with_reducible refine w_mod ?_ ?_); decide)
  | with_reducible refine w_pow30 ?_
  | with_reducible refine w_pow18 ?_
  | with_reducible refine w_eqI ?_
  | with_reducible refine w_neI ?_
  | with_reducible refine w_ltI ?_
  | with_reducible refine w_leI ?_
  | with_reducible refine w_gtI ?_
  | with_reducible refine w_geI ?_
  | with_reducible refine w_truB ?_
  | with_reducible refine w_tval ?_
  | with_reducible refine w_tnot ?_
  | with_reducible refine w_tand ?_
  | with_reducible refine w_tor ?_
  | with_reducible refine w_cif ?_
  | with_reducible refine w_cand ?_
  | with_reducible refine w_cor ?_
  | with_reducible refine w_cnot ?_
  | with_reducible refine w_chn ?_
  | with_reducible refine w_tchn ?_
  | with_reducible refine w_tup ?_
  | ((with_reducible refine lenK ?_ ?_); exact rfl)
  | with_reducible refine w_is1 ?_
  | ((with_reducible refine w_isQ ?_); refine oq ?_)
  | with_reducible refine w_is ?_
  | ((with_reducible refine w_isQs ?_); refine oq ?_)
  | with_reducible refine w_minI ?_
  | with_reducible refine w_maxI ?_
  | with_reducible refine w_absI ?_
  | with_reducible refine w_intI ?_
  | with_reducible refine w_lenT ?_
  | with_reducible refine w_lenR ?_
  | with_reducible refine w_sl ?_
  | with_reducible refine w_pno ?_
  | with_reducible refine w_psome ?_
  | with_reducible refine w_slT ?_
  | with_reducible refine w_sexp ?_
  | with_reducible refine w_sretN ?_
  | with_reducible refine w_raise ?_
  | with_reducible refine w_snil ?_
  | with_reducible refine w_brk ?_
  | with_reducible refine w_cnt ?_
  | with_reducible refine w_for ?_
  | with_reducible refine w_iV ?_
  | with_reducible refine w_srcT ?_
  | with_reducible refine w_srcR ?_
  | with_reducible refine w_rng1' ?_
  | with_reducible refine w_BL ?_
  | with_reducible refine w_Lc ?_
  | with_reducible refine w_lcI ?_
  | ((with_reducible refine w_gT ?_ ?_); exact rfl)
  | with_reducible refine w_gsCons ?_
  | with_reducible refine w_gsNil ?_
  | with_reducible refine w_gI ?_
  | with_reducible refine w_M ?_
  | with_reducible refine w_lst ?_
  | with_reducible refine w_try ?_
  | with_reducible refine tk_nx ?_
  | with_reducible refine tk_ct ?_
  | with_reducible refine tk_bk ?_
  | with_reducible refine tk_rt ?_
  | with_reducible refine tk_ex ?_
  | with_reducible refine fk_nx ?_
  | with_reducible refine fk_rt ?_
  | with_reducible refine fk_ex ?_
  | with_reducible refine try_rt ?_
  | with_reducible refine try_nx ?_
  | with_reducible refine cat_rt ?_
  | with_reducible refine ek ?_
  | with_reducible refine retQ_same ?_
  | with_reducible refine retE_same ?_)
local macro_rules | `(tactic| tm_at "s") => `(tactic| simp only [Mini.start, List.map_cons, List.map_nil, List.length_cons, List.length_nil, List.replicate, List.cons_append, List.nil_append, Nat.reduceAdd, Nat.reduceSub, List.append_nil])
local macro_rules | `(tactic| tm_at "w") => `(tactic| repeat (first | with_reducible refine sq_nx ?_ | tm_at "n"))
local macro_rules | `(tactic| tm_at "v") => `(tactic| repeat tm_at "n")
section
variable {Q : D → Store → Prop} {E : Nat → List D → Store → Prop} {μ : Store} {k : Nat}
structure MV (zs : List Int) : Prop where
  len : zs.length ≤ 64
  big : ∀ m ∈ zs, Big m
theorem lcMoves {σ : Mini.Env} {ks p : Nat} {o : Ob} {s : S3} {wide n : Int} {QL : List D → Store → Prop} (h : μ[p]? = some o) (h1 : 0 ≤ wide) (h2 : wide ≤ 2000000000000000000000000000000) (e0 : ∀ d, (σ.set ks (some d))[0]? = some (some (.loc p))) (e2 : ∀ d, (σ.set ks (some d))[2]? = some (some (.int wide))) (hn : n ≤ 64)
    (q : ∀ (ms : List Int) (s' : S3), MV ms → QL (ms.map .int) (μ.set p (srcO s'))) : Wp (lcLoop (gN ks) tYes (cCall (callN fns (k + 2)) 17 (aCons (cVar 0) (aCons (cVar 2) aNil))) (srcR 0 n) σ 1000000000 0 [] (μ.set p (srcO s))) QL NoE := by
  refine w_lcL ((List.range n.toNat).map fun (k : Nat) => .int k) (fun i acc μ' => ∃ s' ms, μ' = μ.set p (srcO s') ∧ acc = ms.map D.int ∧ ms.length = i ∧ i ≤ n.toNat ∧ ∀ m ∈ ms, Big m) (by rw [List.length_map, List.length_range]; omega) (fun i acc μ' ⟨s', ms, u1, u2, u3, u4, u5⟩ => ?_) (fun i d acc μ' hd ⟨s', ms, u1, u2, u3, u4, u5⟩ => ?_) (fun acc μ' ⟨s', ms, u1, u2, u3, u4, u5⟩ => ?_) ⟨s, [], rfl, rfl, rfl, Nat.zero_le _, fun m hm => by cases hm⟩
  · refine ⟨feeds_R, ?_⟩
    rw [u2, List.length_map, u3]
    exact Nat.lt_of_le_of_lt (show i ≤ 64 by omega) (by decide)
  · subst u1 u2
    have hi : i < n.toNat := by
      obtain ⟨z, _⟩ := List.getElem?_eq_some_iff.mp hd
      rw [List.length_map, List.length_range] at z
      exact z
    tm_at "w"
    refine w_ret (c2T ?_)
    tm_at "w"
    refine w_varQ ?_
    rw [e0]
    refine vq_loc ?_
    tm_at "w"
    refine w_varQ ?_
    rw [e2]
    refine vq_int ?_
    tm_at "w"
    refine sp_move h h1 h2 fun m s2 hm => ?_
    refine ⟨s2, ms ++ [m], rfl, by rw [List.map_append]; rfl, by rw [List.length_append, u3]; rfl, hi, fun x hx => ?_⟩
    rcases List.mem_append.mp hx with hx | hx
    · exact u5 x hx
    · rw [List.mem_singleton.mp hx]
      exact hm
  · subst u1 u2
    rw [List.length_map, List.length_range] at u3
    exact q ms s' ⟨by omega, u5⟩
theorem sp_moves {p c : Nat} {o : Ob} {s : S3} {as : List Int} {wide : Int} (h : μ[p]? = some o) (hc : μ[c]? = some (.lst (as.map .int))) (hpc : p ≠ c) (hl : as.length ≤ 64) (h1 : 0 ≤ wide) (h2 : wide ≤ 2000000000000000000000000000000)
    (q : ∀ (ms : List Int) (s' : S3), MV ms → Q (intsT ms) (μ.set p (srcO s'))) : Wp (callN fns (k + 3) 18 [.loc p, .loc c, .int wide] (μ.set p (srcO s))) Q E := by
  refine w_fn rfl rfl ?_
  have q' : ∀ (ms : List Int) (s' : S3), MV ms → retQ (μ.set p (srcO s)).length (intsT ms) (μ.set p (srcO s')) Q := fun m s' h1 => retQ_len (by rw [List.length_set, List.length_set]) (q m s' h1)
  generalize (μ.set p (srcO s)).length = nn at q' ⊢
  have hcs : ∀ x, (μ.set p x)[c]? = some (.lst (as.map .int)) := fun x => by rw [List.getElem?_set_ne hpc]; exact hc
  have rest : ∀ s1, Wp (sSeq (sAsg (gN 4) (cCall (callN fns (k + 2)) 15 (aCons (cVar 0) (aCons (cTup (aCons (cK (.int 2)) (aCons (cK (.int 3)) (aCons (cK (.int 1)) (aCons (cK (.int 4)) (aCons (cK (.int 6)) (aCons (cK (.int 9)) (aCons (cK (.int 0)) (aCons (cK (.int 20)) (aCons (cK (.int 64)) aNil)))))))))) aNil)))) (sSeq (sRet (cBL newT (lcI [6] (iRng1 (cVar 4)) (gN 6) tYes (cCall (callN fns (k + 2)) 17 (aCons (cVar 0) (aCons (cVar 2) aNil)))))) sNil) [some (.loc p), some (.loc c), some (.int wide), none, none, none, none] (μ.set p (srcO s1))) (fnK nn Q E) NoE := by
    intro s1
    tm_at "w"
    refine sp_pickS h (by decide) (by decide) fun i x s2 hx => ?_
    have hx2 : ∃ n : Int, x = .int n ∧ 0 ≤ n ∧ n ≤ 64 := by
      match i, hx with
      | 0, hx => cases hx; exact ⟨2, rfl, by decide, by decide⟩
      | 1, hx => cases hx; exact ⟨3, rfl, by decide, by decide⟩
      | 2, hx => cases hx; exact ⟨1, rfl, by decide, by decide⟩
      | 3, hx => cases hx; exact ⟨4, rfl, by decide, by decide⟩
      | 4, hx => cases hx; exact ⟨6, rfl, by decide, by decide⟩
      | 5, hx => cases hx; exact ⟨9, rfl, by decide, by decide⟩
      | 6, hx => cases hx; exact ⟨0, rfl, by decide, by decide⟩
      | 7, hx => cases hx; exact ⟨20, rfl, by decide, by decide⟩
      | 8, hx => cases hx; exact ⟨64, rfl, by decide, by decide⟩
      | n + 9, hx => cases hx
    obtain ⟨n, rfl, n1, n2⟩ := hx2
    tm_at "w"
    refine ⟨⟨by omega, by omega⟩, ?_⟩
    refine lcMoves h h1 h2 (fun _ => rfl) (fun _ => rfl) n2 fun ms s3 hm => ?_
    refine w_newT (by rw [List.length_map]; exact Nat.le_trans hm.len (by decide)) ?_
    tm_at "w"
    exact q' ms s3 hm
  unfold f_law_moves d_law_moves
  tm_at "s"
  tm_at "w"
  refine sp_drawS h (by decide) (by decide) fun d1 s1 a1 b1 => ?_
  tm_at "w"
  refine c2D (fun g => ?_) (fun g => ?_)
  · tm_at "w"
    refine w_len (hcs _) ?_
    tm_at "w"
    refine c2D (fun g => ?_) (fun g => ?_)
    · tm_at "w"
      refine sp_pickS h (Nat.le_of_ble_eq_true rfl) (Nat.le_of_ble_eq_true rfl) fun i x s2 hx => ?_
      have hx2 : ∃ n : Int, x = .int n ∧ 1 ≤ n := by
        match i, hx with
        | 0, hx => cases hx; exact ⟨2, rfl, by decide⟩
        | 1, hx => cases hx; exact ⟨wide + 1, rfl, by omega⟩
        | 2, hx => cases hx; exact ⟨_, rfl, by decide⟩
        | n + 3, hx => cases hx
      obtain ⟨n, rfl, n1⟩ := hx2
      tm_at "w"
      have m1 : 1 ≤ (if (1000000000000000000000000000000 : Int) < n then 1000000000000000000000000000000 else n) ∧ (if (1000000000000000000000000000000 : Int) < n then 1000000000000000000000000000000 else n) ≤ 1000000000000000000000000000000 := by
        constructor <;> split <;> omega
      generalize (if (1000000000000000000000000000000 : Int) < n then 1000000000000000000000000000000 else n) = most at m1 ⊢
      refine w_srcL (hcs _) ?_
      refine w_lcP (fun _ => true) (fun d => match d with
        | .int n => .int (n % (2 * most + 1) - most)
        | d => d) (μ.set p (srcO s2)) (by rw [List.length_map]; exact Nat.lt_of_le_of_lt hl (by decide)) (feeds_L (hcs _)) (fun d hd => ?_) ?_
      · obtain ⟨n, _, rfl⟩ := List.mem_map.mp hd
        tm_at "w"
        refine w_ret ⟨rfl, c2T ?_⟩
        tm_at "w"
        refine w_mod (by omega) ?_
        tm_at "w"
        exact ⟨rfl, rfl⟩
      rw [List.filter_eq_self.mpr (fun _ _ => rfl), List.map_map]
      have e2 : (as.map ((fun d : D => match d with
        | .int n => .int (n % (2 * most + 1) - most)
        | d => d) ∘ D.int)) = (as.map (fun n => n % (2 * most + 1) - most)).map D.int := by
        rw [List.map_map]
        rfl
      rw [e2]
      refine w_newT (by rw [List.length_map, List.length_map]; exact Nat.le_trans hl (by decide)) ?_
      tm_at "w"
      refine q' _ s2 ⟨by rw [List.length_map]; exact hl, fun m hm => ?_⟩
      obtain ⟨n, _, rfl⟩ := List.mem_map.mp hm
      have := Int.emod_nonneg n (show 2 * most + 1 ≠ 0 by omega)
      have := Int.emod_lt_of_pos n (show 0 < 2 * most + 1 by omega)
      exact ⟨by omega, by omega⟩
    · tm_at "v"
      exact rest s1
  · tm_at "v"
    exact rest s1
end
end K93

set_option Elab.async false
set_option linter.all false
set_option maxRecDepth 100000
set_option maxHeartbeats 0
namespace K93
open PySem PySem.Spec Mini

local macro_rules | `(tactic| tm_at "n") => `(tactic| first
  | with_reducible refine w_seq1 ?_
  | with_reducible refine w_seq ?_
  | with_reducible refine sq_rt ?_
  | with_reducible refine sq_ex ?_
  | with_reducible refine sq_ct ?_
  | with_reducible refine sq_bk ?_
  | ((with_reducible refine w_varQ ?_); first | refine vq_int ?_ | refine vq_tup ?_ | refine vq_loc ?_ | refine vq_bl ?_ | refine vq_rol ?_ | refine vq_str ?_ | refine vq_non ?_)
  | with_reducible refine w_K ?_
  | with_reducible refine c2T ?_
  | with_reducible refine c2F ?_
  | with_reducible refine c2N ?_
  | with_reducible refine blk ?_
  | with_reducible refine intk ?_
  | with_reducible refine w_asg ?_
  | with_reducible refine w_gN ?_
  | with_reducible refine w_sret ?_
  | with_reducible refine w_sif ?_
  | with_reducible refine w_tcmp ?_
  | with_reducible refine w_cmp ?_
  | with_reducible refine w_2 ?_
  | with_reducible refine w_1 ?_
  | with_reducible refine w_call ?_
  | with_reducible refine w_cons ?_
  | with_reducible refine w_nil ?_
  | with_reducible refine w_B ?_
  | with_reducible refine w_add ?_
  | with_reducible refine w_sub ?_
  | with_reducible refine w_neg ?_
  | ((with_reducible refine w_mul ?_ ?_); first | exact .inl (by decide) | exact .inr (.inl (by decide)))
  | ((with_reducible refine w_div ?_ ?_); exact ⟨by decide, by decide⟩)
  | ((with_reducible refine w_mod ?_ ?_); decide)
  | with_reducible refine w_pow30 ?_
  | with_reducible refine w_pow18 ?_
  | with_reducible refine w_eqI ?_
  | with_reducible refine w_neI ?_
  | with_reducible refine w_ltI ?_
  | with_reducible refine w_leI ?_
  | with_reducible refine w_gtI ?_
  | with_reducible refine w_geI ?_
  | with_reducible refine w_truB ?_
  | with_reducible refine w_tval ?_
  | with_reducible refine w_tnot ?_
  | with_reducible refine w_tand ?_
  | with_reducible refine w_tor ?_
  | with_reducible refine w_cif ?_
  | with_reducible refine w_cand ?_
  | with_reducible refine w_cor ?_
  | with_reducible refine w_cnot ?_
  | with_reducible refine w_chn ?_
  | with_reducible refine w_tchn ?_
  | with_reducible refine w_tup ?_
  | ((with_reducible refine lenK ?_ ?_); exact rfl)
  | with_reducible refine w_is1 ?_
  | ((with_reducible refine w_isQ ?_); refine oq ?_)
  | with_reducible refine w_is ?_
  | ((with_reducible refine w_isQs ?_); refine oq ?_)
  | with_reducible refine w_minI ?_
  | with_reducible refine w_maxI ?_
  | with_reducible refine w_absI ?_
  | with_reducible refine w_intI ?_
  | with_reducible refine w_lenT ?_
  | with_reducible refine w_lenR ?_
  | with_reducible refine w_sl ?_
  | with_reducible refine w_pno ?_
  | with_reducible refine w_psome ?_
  | with_reducible refine w_sexp ?_
  | with_reducible refine w_sretN ?_
  | with_reducible refine w_raise ?_
  | with_reducible refine w_snil ?_
  | with_reducible refine w_brk ?_
  | with_reducible refine w_cnt ?_
  | with_reducible refine w_for ?_
  | with_reducible refine w_iV ?_
  | with_reducible refine w_srcT ?_
  | with_reducible refine w_srcR ?_
  | with_reducible refine w_rng1' ?_
  | with_reducible refine w_BL ?_
  | with_reducible refine w_Lc ?_
  | with_reducible refine w_lcI ?_
  | ((with_reducible refine w_gT ?_ ?_); exact rfl)
  | with_reducible refine w_gsCons ?_
  | with_reducible refine w_gsNil ?_
  | with_reducible refine w_gI ?_
  | with_reducible refine w_M ?_
  | with_reducible refine w_lst ?_
  | with_reducible refine w_try ?_
  | with_reducible refine tk_nx ?_
  | with_reducible refine tk_ct ?_
  | with_reducible refine tk_bk ?_
  | with_reducible refine tk_rt ?_
  | with_reducible refine tk_ex ?_
  | with_reducible refine fk_nx ?_
  | with_reducible refine fk_rt ?_
  | with_reducible refine fk_ex ?_
  | with_reducible refine try_rt ?_
  | with_reducible refine try_nx ?_
  | with_reducible refine cat_rt ?_
  | with_reducible refine ek ?_
  | with_reducible refine retQ_same ?_
  | with_reducible refine retE_same ?_)
local macro_rules | `(tactic| tm_at "s") => `(tactic| simp only [Mini.start, List.map_cons, List.map_nil, List.length_cons, List.length_nil, List.replicate, List.cons_append, List.nil_append, Nat.reduceAdd, Nat.reduceSub, List.append_nil])
local macro_rules | `(tactic| tm_at "w") => `(tactic| repeat (first | with_reducible refine sq_nx ?_ | tm_at "n"))
local macro_rules | `(tactic| tm_at "v") => `(tactic| repeat tm_at "n")
local macro_rules | `(tactic| tm_at "c") => `(tactic| first | refine c2_of (by decide) ?_ | refine c2_ofF (by decide) ?_)
section
variable {Q : D → Store → Prop} {E : Nat → List D → Store → Prop} {μ : Store} {k : Nat}
theorem w_slTo {ms : List Int} {i : Int} (h : 0 ≤ i) (q : Q (intsT (ms.take i.toNat)) μ) : Wp (slD (intsT ms) none (some i) μ) Q E := by
  refine w_slT ?_
  rw [cutL_map, cutL_to h]
  exact q
theorem w_slFrom {ms : List Int} {i : Int} (h : 0 ≤ i) (q : Q (intsT (ms.drop i.toNat)) μ) : Wp (slD (intsT ms) (some i) none μ) Q E := by
  refine w_slT ?_
  rw [cutL_map, cutL_from h]
  exact q
theorem w_add2 {as : List Int} {x y : Int} (h : as.length ≤ 1000) (q : Q (intsT (as ++ [x, y])) μ) : Wp (addD (intsT as) (.tup [.int x, .int y]) μ) Q E := by
  refine w_addT (by rw [List.length_append, List.length_map]; exact Nat.le_trans (Nat.add_le_add_right h _) (Nat.le_of_ble_eq_true rfl)) ?_
  rw [show as.map D.int ++ [D.int x, D.int y] = (as ++ [x, y]).map D.int by rw [List.map_append]; rfl]
  exact q
theorem w_add1 {as : List Int} {x : Int} (h : as.length ≤ 1000) (q : Q (intsT (as ++ [x])) μ) : Wp (addD (intsT as) (.tup [.int x]) μ) Q E := by
  refine w_addT (by rw [List.length_append, List.length_map]; exact Nat.le_trans (Nat.add_le_add_right h _) (Nat.le_of_ble_eq_true rfl)) ?_
  rw [show as.map D.int ++ [D.int x] = (as ++ [x]).map D.int by rw [List.map_append]; rfl]
  exact q
theorem w_addM {as bs : List Int} (h : as.length ≤ 1000) (h' : bs.length ≤ 1000) (q : Q (intsT (as ++ bs)) μ) : Wp (addD (intsT as) (intsT bs) μ) Q E := by
  refine w_addT (by rw [List.length_append, List.length_map, List.length_map]; exact Nat.le_trans (Nat.add_le_add h h') (by decide)) ?_
  rw [← List.map_append]
  exact q
theorem w_rev {ms : List Int} (h : ms.length ≤ 1000) (q : Q (intsT ms.reverse) μ) : Wp (revD (intsT ms) μ) Q E := by
  show Wp ((if (ms.map D.int).length ≤ lineN then ret (.tup (ms.map D.int).reverse) else stk) μ) Q E
  rw [if_pos (by rw [List.length_map]; exact Nat.le_trans h (by decide)), ← List.map_reverse]
  exact q
theorem w_ixM {ms : List Int} {i : Int} {m : Int} (h : 0 ≤ i) (e : ms[i.toNat]? = some m) (q : Q (.int m) μ) : Wp (ixD (intsT ms) (.int i) μ) Q E := by
  obtain ⟨hl, _⟩ := List.getElem?_eq_some_iff.mp e
  refine w_ixT (d := .int m) ?_ q
  rw [atI_of h (by rw [List.length_map]; omega), List.getElem?_map, e]
  rfl
theorem mv_take {zs : List Int} (h : ∀ m ∈ zs, Big m) : MV (zs.take (64 : Int).toNat) := ⟨by rw [List.length_take]; exact Nat.min_le_left _ _, fun m hm => h m (List.mem_of_mem_take hm)⟩
theorem two_of {l : List Int} (h : 1 < (l.length : Int)) : ∃ x0 x1 br, l = x0 :: x1 :: br := by
  match l, h with
  | x0 :: x1 :: br, _ => exact ⟨x0, x1, br, rfl⟩
  | [x], h => simp at h
  | [], h => simp at h
theorem one_of {l : List Int} (h : 0 < (l.length : Int)) : ∃ x0 br, l = x0 :: br := by
  match l, h with
  | x0 :: br, _ => exact ⟨x0, br, rfl⟩
  | [], h => simp at h
theorem sp_near {p : Nat} {o : Ob} {s : S3} {ms : List Int} {wide : Int} (h : μ[p]? = some o) (hm : MV ms) (h1 : 0 ≤ wide) (h2 : wide ≤ 2000000000000000000000000000000)
    (q : ∀ (zs : List Int) (s' : S3), MV zs → Q (intsT zs) (μ.set p (srcO s'))) : Wp (callN fns (k + 3) 19 [.loc p, intsT ms, .int wide] (μ.set p (srcO s))) Q E := by
  refine w_fn rfl rfl ?_
  have q' : ∀ (ms : List Int) (s' : S3), MV ms → retQ (μ.set p (srcO s)).length (intsT ms) (μ.set p (srcO s')) Q := fun m s' h1 => retQ_len (by rw [List.length_set, List.length_set]) (q m s' h1)
  generalize (μ.set p (srcO s)).length = nn at q' ⊢
  unfold f_law_near d_law_near
  tm_at "s"
  tm_at "w"
  refine sp_drawS h (by decide) (by decide) fun way s1 a1 b1 => ?_
  tm_at "w"
  have hl := hm.len
  rw [List.length_map]
  refine sp_drawS h (by omega) (by omega) fun pl s2 a2 b2 => ?_
  tm_at "w"
  refine w_slTo a2 ?_
  tm_at "w"
  refine w_slFrom a2 ?_
  have ba : ∀ m ∈ ms.take pl.toNat, Big m := fun m hx => hm.big m (List.mem_of_mem_take hx)
  have bb : ∀ m ∈ ms.drop pl.toNat, Big m := fun m hx => hm.big m (List.mem_of_mem_drop hx)
  have la : (ms.take pl.toNat).length = pl.toNat := by rw [List.length_take]; omega
  have lb : (ms.drop pl.toNat).length = ms.length - pl.toNat := by rw [List.length_drop]
  generalize ms.take pl.toNat = ah at ba la ⊢
  generalize ms.drop pl.toNat = be at bb lb ⊢
  have b3 : ∀ (x y : Int), Big x → Big y → ∀ m ∈ (ah ++ [x, y]) ++ be, Big m := fun x y hx hy m hz => by
    simp only [List.mem_append, List.mem_cons, List.not_mem_nil, or_false] at hz
    rcases hz with (hz | hz | hz) | hz
    · exact ba m hz
    · subst hz; exact hx
    · subst hz; exact hy
    · exact bb m hz
  have b4 : ∀ (x : Int) (n : Nat), Big x → ∀ m ∈ (ah ++ [x]) ++ be.drop n, Big m := fun x n hx m hz => by
    simp only [List.mem_append, List.mem_cons, List.not_mem_nil, or_false] at hz
    rcases hz with (hz | hz) | hz
    · exact ba m hz
    · subst hz; exact hx
    · exact bb m (List.mem_of_mem_drop hz)
  have b5 : ∀ (x y : Int) (n : Nat), Big x → Big y → ∀ m ∈ (ah ++ [x, y]) ++ be.drop n, Big m := fun x y n hx hy m hz => by
    simp only [List.mem_append, List.mem_cons, List.not_mem_nil, or_false] at hz
    rcases hz with (hz | hz | hz) | hz
    · exact ba m hz
    · subst hz; exact hx
    · subst hz; exact hy
    · exact bb m (List.mem_of_mem_drop hz)
  have l1 : ah.length ≤ 1000 := by omega
  have l2 : be.length ≤ 1000 := by omega
  have l3 : ∀ x y : Int, (ah ++ [x, y]).length ≤ 1000 := fun x y => by rw [List.length_append]; show ah.length + 2 ≤ 1000; omega
  have l4 : ∀ x : Int, (ah ++ [x]).length ≤ 1000 := fun x => by rw [List.length_append]; show ah.length + 1 ≤ 1000; omega
  have l5 : ∀ n, (be.drop n).length ≤ 1000 := fun n => by rw [List.length_drop]; omega
  tm_at "w"
  refine sp_drawS h (by decide) (by decide) fun d3 s3 a3 c3 => ?_
  have rest : ∀ (way : Int) (aa bb : Option D), Wp (sSeq (sRet (cBL newT (lcI [10] (iRng1 (cCall (callN fns (k + 2)) 14 (aCons (cVar 0) (aCons (cK (.int 6)) aNil)))) (gN 10) tYes (cCall (callN fns (k + 2)) 17 (aCons (cVar 0) (aCons (cVar 2) aNil)))))) sNil [some (.loc p), some (intsT ms), some (.int wide), some (.int way), some (.int pl), some (intsT ah), some (intsT be), some (.int (1 + d3)), none, none, none] (μ.set p (srcO s3))) (fnK nn Q E) NoE := by
    intro way _ _
    tm_at "w"
    refine sp_drawS h (by decide) (by decide) fun d4 s4 a4 c4 => ?_
    tm_at "w"
    refine ⟨⟨by omega, by omega⟩, ?_⟩
    refine lcMoves h h1 h2 (fun _ => rfl) (fun _ => rfl) (by omega) fun ms s3 hm => ?_
    refine w_newT (by rw [List.length_map]; exact Nat.le_trans hm.len (by decide)) ?_
    tm_at "w"
    exact q' ms s3 hm
  have hw : way = 0 ∨ way = 1 ∨ way = 2 ∨ way = 3 ∨ way = 4 ∨ way = 5 ∨ way = 6 ∨ way = 7 := by omega
  have l0 : (be.map D.int).length = be.length := List.length_map ..
  rcases hw with rfl | rfl | rfl | rfl | rfl | rfl | rfl | rfl
  · tm_at "w"
    tm_at "c"
    tm_at "w"
    refine w_add2 l1 ?_
    tm_at "w"
    refine w_addM (l3 _ _) l2 ?_
    tm_at "w"
    refine w_slTo (by decide) ?_
    tm_at "w"
    exact q' _ _ (mv_take (b3 _ _ ⟨by omega, by omega⟩ ⟨by omega, by omega⟩))
  · iterate 2 (tm_at "w"; tm_at "c")
    tm_at "w"
    refine w_add2 l1 ?_
    tm_at "w"
    refine w_addM (l3 _ _) l2 ?_
    tm_at "w"
    refine w_slTo (by decide) ?_
    tm_at "w"
    exact q' _ _ (mv_take (b3 _ _ ⟨by omega, by omega⟩ ⟨by omega, by omega⟩))
  · iterate 3 (tm_at "w"; tm_at "c")
    tm_at "w"
    refine w_add1 l1 ?_
    tm_at "w"
    refine w_addM (l4 _) l2 ?_
    tm_at "w"
    refine w_slTo (by decide) ?_
    tm_at "w"
    exact q' _ _ (mv_take (b4 0 0 ⟨by omega, by omega⟩))
  · iterate 4 (tm_at "w"; tm_at "c")
    tm_at "w"
    rw [l0]
    refine c2D (fun g2 => ?_) (fun g2 => ?_)
    · obtain ⟨x0, x1, br, rfl⟩ := two_of g2
      have hx0 := bb x0 (by simp)
      have hx1 := bb x1 (by simp)
      have ll : (x0 :: x1 :: br).length = br.length + 2 := rfl
      tm_at "w"
      refine w_ixM (m := x1) (by decide) rfl ?_
      tm_at "w"
      refine w_ixM (m := x0) (by decide) rfl ?_
      tm_at "w"
      refine w_add2 l1 ?_
      tm_at "w"
      refine w_slFrom (by decide) ?_
      tm_at "w"
      refine w_addM (l3 _ _) (l5 _) ?_
      tm_at "w"
      refine q' _ _ ⟨?_, b5 _ _ _ hx1 hx0⟩
      rw [List.length_append, List.length_append, List.length_drop]
      show ah.length + 2 + ((x0 :: x1 :: br).length - 2) ≤ 64
      omega
    · iterate 3 (tm_at "w"; tm_at "c")
      tm_at "v"
      exact rest _ none none
  · iterate 5 (tm_at "w"; tm_at "c")
    tm_at "w"
    rw [l0]
    refine c2D (fun g2 => ?_) (fun g2 => ?_)
    · obtain ⟨x0, br, rfl⟩ := one_of g2
      have hx0 := bb x0 (by simp)
      tm_at "w"
      refine w_ixM (m := x0) (by decide) rfl ?_
      tm_at "w"
      refine w_ixM (m := x0) (by decide) rfl ?_
      tm_at "w"
      refine w_add2 l1 ?_
      tm_at "w"
      refine w_slFrom (by decide) ?_
      tm_at "w"
      refine w_addM (l3 _ _) (l5 _) ?_
      tm_at "w"
      refine w_slTo (by decide) ?_
      tm_at "w"
      exact q' _ _ (mv_take (b5 _ _ _ ⟨by omega, by omega⟩ ⟨by omega, by omega⟩))
    · iterate 2 (tm_at "w"; tm_at "c")
      tm_at "v"
      exact rest _ none none
  · iterate 6 (tm_at "w"; tm_at "c")
    tm_at "w"
    rw [l0]
    refine c2D (fun g2 => ?_) (fun g2 => ?_)
    · obtain ⟨x0, br, rfl⟩ := one_of g2
      have hx0 := bb x0 (by simp)
      have ll : (x0 :: br).length = br.length + 1 := rfl
      tm_at "w"
      refine w_ixM (m := x0) (by decide) rfl ?_
      tm_at "w"
      refine c2D (fun g3 => ?_) (fun g3 => ?_)
      · tm_at "w"
        refine w_ixM (m := x0) (by decide) rfl ?_
        tm_at "w"
        refine w_add1 l1 ?_
        tm_at "w"
        refine w_slFrom (by decide) ?_
        tm_at "w"
        refine w_addM (l4 _) (l5 _) ?_
        tm_at "w"
        refine q' _ _ ⟨?_, b4 _ _ ⟨by omega, by omega⟩⟩
        rw [List.length_append, List.length_append, List.length_drop]
        show ah.length + 1 + ((x0 :: br).length - 1) ≤ 64
        omega
      · tm_at "w"
        refine w_ixM (m := x0) (by decide) rfl ?_
        tm_at "w"
        refine w_add1 l1 ?_
        tm_at "w"
        refine w_slFrom (by decide) ?_
        tm_at "w"
        refine w_addM (l4 _) (l5 _) ?_
        tm_at "w"
        refine q' _ _ ⟨?_, b4 _ _ ⟨by omega, by omega⟩⟩
        rw [List.length_append, List.length_append, List.length_drop]
        show ah.length + 1 + ((x0 :: br).length - 1) ≤ 64
        omega
    · tm_at "w"
      tm_at "c"
      tm_at "v"
      exact rest _ none none
  · iterate 7 (tm_at "w"; tm_at "c")
    tm_at "w"
    refine w_rev (by omega) ?_
    tm_at "w"
    exact q' _ _ ⟨by rw [List.length_reverse]; exact hl, fun m hx => hm.big m (List.mem_reverse.mp hx)⟩
  · iterate 7 (tm_at "w"; tm_at "c")
    tm_at "v"
    exact rest _ none none
end
end K93

set_option Elab.async false
set_option linter.all false
set_option maxRecDepth 100000
set_option maxHeartbeats 0
namespace K93
open PySem PySem.Spec Mini

local macro_rules | `(tactic| tm_at "n") => `(tactic| first
  | with_reducible refine w_seq1 ?_
  | with_reducible refine w_seq ?_
  | with_reducible refine sq_rt ?_
  | with_reducible refine sq_ex ?_
  | with_reducible refine sq_ct ?_
  | with_reducible refine sq_bk ?_
  | ((with_reducible refine w_varQ ?_); first | refine vq_int ?_ | refine vq_tup ?_ | refine vq_loc ?_ | refine vq_bl ?_ | refine vq_rol ?_ | refine vq_str ?_ | refine vq_non ?_)
  | with_reducible refine w_K ?_
  | with_reducible refine c2T ?_
  | with_reducible refine c2F ?_
  | with_reducible refine c2N ?_
  | with_reducible refine blk ?_
  | with_reducible refine intk ?_
  | with_reducible refine w_asg ?_
  | with_reducible refine w_gN ?_
  | with_reducible refine w_sret ?_
  | with_reducible refine w_sif ?_
  | with_reducible refine w_tcmp ?_
  | with_reducible refine w_cmp ?_
  | with_reducible refine w_2 ?_
  | with_reducible refine w_1 ?_
  | with_reducible refine w_call ?_
  | with_reducible refine w_cons ?_
  | with_reducible refine w_nil ?_
  | with_reducible refine w_B ?_
  | with_reducible refine w_add ?_
  | with_reducible refine w_sub ?_
  | with_reducible refine w_neg ?_
  | ((with_reducible refine w_mul ?_ ?_); first | exact .inl (by decide) | exact .inr (.inl (by decide)))
  | ((with_reducible refine w_div ?_ ?_); exact ⟨by decide, by decide⟩)
  | ((with_reducible refine w_mod ?_ ?_); decide)
  | with_reducible refine w_pow30 ?_
  | with_reducible refine w_pow18 ?_
  | with_reducible refine w_eqI ?_
  | with_reducible refine w_neI ?_
  | with_reducible refine w_ltI ?_
  | with_reducible refine w_leI ?_
  | with_reducible refine w_gtI ?_
  | with_reducible refine w_geI ?_
  | with_reducible refine w_truB ?_
  | with_reducible refine w_tval ?_
  | with_reducible refine w_tnot ?_
  | with_reducible refine w_tand ?_
  | with_reducible refine w_tor ?_
  | with_reducible refine w_cif ?_
  | with_reducible refine w_cand ?_
  | with_reducible refine w_cor ?_
  | with_reducible refine w_cnot ?_
  | with_reducible refine w_chn ?_
  | with_reducible refine w_tchn ?_
  | with_reducible refine w_tup ?_
  | ((with_reducible refine lenK ?_ ?_); exact rfl)
  | with_reducible refine w_is1 ?_
  | ((with_reducible refine w_isQ ?_); refine oq ?_)
  | with_reducible refine w_is ?_
  | ((with_reducible refine w_isQs ?_); refine oq ?_)
  | with_reducible refine w_minI ?_
  | with_reducible refine w_maxI ?_
  | with_reducible refine w_absI ?_
  | with_reducible refine w_intI ?_
  | with_reducible refine w_lenT ?_
  | with_reducible refine w_lenR ?_
  | with_reducible refine w_sl ?_
  | with_reducible refine w_pno ?_
  | with_reducible refine w_psome ?_
  | with_reducible refine w_sexp ?_
  | with_reducible refine w_sretN ?_
  | with_reducible refine w_raise ?_
  | with_reducible refine w_snil ?_
  | with_reducible refine w_brk ?_
  | with_reducible refine w_cnt ?_
  | with_reducible refine w_for ?_
  | with_reducible refine w_iV ?_
  | with_reducible refine w_srcT ?_
  | with_reducible refine w_srcR ?_
  | with_reducible refine w_rng1' ?_
  | with_reducible refine w_BL ?_
  | with_reducible refine w_Lc ?_
  | with_reducible refine w_lcI ?_
  | ((with_reducible refine w_gT ?_ ?_); exact rfl)
  | with_reducible refine w_gsCons ?_
  | with_reducible refine w_gsNil ?_
  | with_reducible refine w_gI ?_
  | with_reducible refine w_M ?_
  | with_reducible refine w_lst ?_
  | with_reducible refine w_try ?_
  | with_reducible refine tk_nx ?_
  | with_reducible refine tk_ct ?_
  | with_reducible refine tk_bk ?_
  | with_reducible refine tk_rt ?_
  | with_reducible refine tk_ex ?_
  | with_reducible refine fk_nx ?_
  | with_reducible refine fk_rt ?_
  | with_reducible refine fk_ex ?_
  | with_reducible refine try_rt ?_
  | with_reducible refine try_nx ?_
  | with_reducible refine cat_rt ?_
  | with_reducible refine ek ?_
  | with_reducible refine retQ_same ?_
  | with_reducible refine retE_same ?_)
local macro_rules | `(tactic| tm_at "s") => `(tactic| simp only [Mini.start, List.map_cons, List.map_nil, List.length_cons, List.length_nil, List.replicate, List.cons_append, List.nil_append, Nat.reduceAdd, Nat.reduceSub, List.append_nil])
local macro_rules | `(tactic| tm_at "w") => `(tactic| repeat (first | with_reducible refine sq_nx ?_ | tm_at "n"))
local macro_rules | `(tactic| tm_at "v") => `(tactic| repeat tm_at "n")
local macro_rules | `(tactic| tm_at "c") => `(tactic| first | refine c2_of rfl ?_ | refine c2_ofF rfl ?_)
section
variable {Q : D → Store → Prop} {QB : Bool → Store → Prop} {E : Nat → List D → Store → Prop} {μ : Store} {k : Nat}
/-- a list that grows -/
structure Grow (lo hi : Int) (xs0 : List Int) (n : Nat) (need xs : List Int) : Prop where
  sub : ∀ x ∈ xs0, x ∈ xs
  rng : ∀ x ∈ xs, lo ≤ x ∧ x ≤ hi
  len : xs.length ≤ xs0.length + n
  has : ∀ x ∈ need, lo ≤ x → x ≤ hi → x ∈ xs
theorem Grow.refl {lo hi : Int} {xs : List Int} (h : ∀ x ∈ xs, lo ≤ x ∧ x ≤ hi) : Grow lo hi xs 0 [] xs := ⟨fun _ h => h, h, Nat.le_refl _, fun _ z => by cases z⟩
theorem Grow.put {lo hi : Int} {xs0 need xs : List Int} {n : Nat} {x : Int} (h : Grow lo hi xs0 n need xs) (h1 : lo ≤ x) (h2 : x ≤ hi) : Grow lo hi xs0 (n + 1) (need ++ [x]) (xs ++ [x]) :=
  ⟨fun y hy => List.mem_append_left _ (h.sub y hy), fun y hy => by
    rcases List.mem_append.mp hy with hy | hy
    · exact h.rng y hy
    · rw [List.mem_singleton.mp hy]; exact ⟨h1, h2⟩, by rw [List.length_append]; show xs.length + 1 ≤ _; have := h.len; omega, fun y hy a b => by
    rcases List.mem_append.mp hy with hy | hy
    · exact List.mem_append_left _ (h.has y hy a b)
    · exact List.mem_append_right _ hy⟩
theorem Grow.skip {lo hi : Int} {xs0 need xs : List Int} {n : Nat} {x : Int} (h : Grow lo hi xs0 n need xs) (h1 : ¬ (lo ≤ x ∧ x ≤ hi)) : Grow lo hi xs0 (n + 1) (need ++ [x]) xs :=
  ⟨h.sub, h.rng, by have := h.len; omega, fun y hy a b => by
    rcases List.mem_append.mp hy with hy | hy
    · exact h.has y hy a b
    · rw [List.mem_singleton.mp hy] at a b
      exact absurd ⟨a, b⟩ h1⟩
theorem Grow.trans {lo hi : Int} {xs0 xs1 xs2 n1 n2 : List Int} {a b : Nat} (h : Grow lo hi xs0 a n1 xs1) (g : Grow lo hi xs1 b n2 xs2) : Grow lo hi xs0 (a + b) (n1 ++ n2) xs2 :=
  ⟨fun y hy => g.sub y (h.sub y hy), g.rng, by have := h.len; have := g.len; omega, fun y hy u v => by
    rcases List.mem_append.mp hy with hy | hy
    · exact g.sub y (h.has y hy u v)
    · exact g.has y hy u v⟩
abbrev edges (e : Int) : List Int := [e - 1, e, e + 1]
abbrev bends (c : Tr) : List Int := edges (c.2.1 - c.1) ++ edges (c.2.2 - c.1)
structure Sta (lo hi : Int) (c : Tr) (xs : List Int) : Prop where
  rng : ∀ x ∈ xs, lo ≤ x ∧ x ≤ hi
  lo_ : lo ∈ xs
  hi_ : hi ∈ xs
  len : xs.length ≤ 100
  has : ∀ x, lo ≤ x → x ≤ hi → (x = c.2.1 - c.1 ∨ x = c.2.1 - c.1 + 1) → x ∈ xs
theorem take_map {ms : List Int} {i : Nat} {d : D} (h : (ms.map D.int)[i]? = some d) : ∃ m, ms[i]? = some m ∧ d = .int m ∧ ms.take (i + 1) = ms.take i ++ [m] := by
  obtain ⟨m, h1, h2⟩ := map_at h
  exact ⟨m, h1, h2, take_snoc h1⟩
theorem sp_starts {p t : Nat} {o : Ob} {s : S3} {lo hi : Int} {c1 c2 : Tr} (h : μ[p]? = some o) (ht : μ[t]? = some (.lst [trD c1, trD c2])) (hpt : p ≠ t) (h1 : -1000000000000000000000000000000 ≤ lo) (h2 : lo ≤ hi) (h3 : hi ≤ 1000000000000000000000000000000)
    (q : ∀ (xs : List Int) (s' : S3), Sta lo hi c1 xs → Q (.loc μ.length) (μ.set p (srcO s') ++ [.lst (xs.map .int)])) : Wp (callN fns (k + 2) 22 [.loc p, .int lo, .int hi, .loc t] (μ.set p (srcO s))) Q E := by
  refine w_fn rfl rfl ?_
  have q' : ∀ (xs : List Int) (s' : S3), Sta lo hi c1 xs → retQ (μ.set p (srcO s)).length (.loc μ.length) (μ.set p (srcO s') ++ [.lst (xs.map .int)]) Q := fun xs s' hs => by
    refine ⟨fun z => ?_, fun _ => q xs s' hs⟩
    rw [List.length_set] at z
    have : μ.length < μ.length := of_decide_eq_true z
    omega
  generalize (μ.set p (srcO s)).length = nn at q' ⊢
  unfold f_law_starts d_law_starts
  tm_at "s"
  tm_at "w"
  have hL : (μ.set p (srcO s)).length = μ.length := List.length_set
  refine c2D (fun g => ?_) (fun g => ?_)
  · tm_at "w"
    refine w_LR2 ?_
    tm_at "w"
    unfold lrD
    dsimp only
    rw [if_pos (by omega), rngL_ints]
    show fnK nn Q E (.rt (.loc (μ.set p (srcO s)).length)) (μ.set p (srcO s) ++ _)
    rw [hL]
    tm_at "w"
    refine q' _ s ⟨fun x hx => ?_, ?_, ?_, ?_, fun x a b _ => ?_⟩
    · obtain ⟨j, hj, rfl⟩ := List.mem_map.mp hx
      have := List.mem_range.mp hj
      omega
    · exact List.mem_map.mpr ⟨0, List.mem_range.mpr (by omega), by simp⟩
    · exact List.mem_map.mpr ⟨(hi - lo).toNat, List.mem_range.mpr (by omega), by omega⟩
    · rw [List.length_map, List.length_range]
      omega
    · exact List.mem_map.mpr ⟨(x - lo).toNat, List.mem_range.mpr (by omega), by omega⟩
  tm_at "w"
  rw [hL]
  -- the store with the list
  have sL : ∀ (s : S3) (xs : List D), (μ.set p (srcO s) ++ [Ob.lst xs])[μ.length]? = some (.lst xs) := fun s xs => by
    rw [List.getElem?_append_right (by rw [List.length_set]; exact Nat.le_refl _), List.length_set]
    simp
  have hplt : p < μ.length := (List.getElem?_eq_some_iff.mp h).1
  have htlt : t < μ.length := (List.getElem?_eq_some_iff.mp ht).1
  have sT : ∀ (s : S3) (xs : List D), (μ.set p (srcO s) ++ [Ob.lst xs])[t]? = some (.lst [trD c1, trD c2]) := fun s xs => by
    rw [List.getElem?_append_left (by rw [List.length_set]; exact htlt), List.getElem?_set_ne hpt]
    exact ht
  have sS : ∀ (s : S3) (xs ys : List D), (μ.set p (srcO s) ++ [Ob.lst xs]).set μ.length (.lst ys) = μ.set p (srcO s) ++ [Ob.lst ys] := fun s xs ys => by
    rw [List.set_append_right _ _ (by rw [List.length_set]; exact Nat.le_refl _), List.length_set]
    simp
  have sP : ∀ (s s' : S3) (xs : List D), (μ.set p (srcO s) ++ [Ob.lst xs]).set p (srcO s') = μ.set p (srcO s') ++ [Ob.lst xs] := fun s s' xs => by
    rw [List.set_append_left _ _ (by rw [List.length_set]; exact hplt), List.set_set]
  have sG : ∀ (s : S3) (xs : List D), (μ.set p (srcO s) ++ [Ob.lst xs])[p]? = some (srcO s) := fun s xs => by
    rw [List.getElem?_append_left (by rw [List.length_set]; exact hplt)]
    exact set_get h
  have e5 : [D.int lo, D.int (lo + 1), D.int (hi - 1), D.int hi, D.int ((lo + hi) / 2)] = [lo, lo + 1, hi - 1, hi, (lo + hi) / 2].map D.int := rfl
  rw [e5]
  have g5 : ∀ x ∈ [lo, lo + 1, hi - 1, hi, (lo + hi) / 2], lo ≤ x ∧ x ≤ hi := fun x hx => by
    simp only [List.mem_cons, List.not_mem_nil, or_false] at hx
    omega
  generalize hz0 : [lo, lo + 1, hi - 1, hi, (lo + hi) / 2] = xs0 at g5 ⊢
  have l0 : xs0.length = 5 := by rw [← hz0]; rfl
  have m0 : lo ∈ xs0 ∧ hi ∈ xs0 := by rw [← hz0]; simp
  clear hz0 e5
  refine w_srcL (sT _ _) ?_
  refine w_forI [trD c1, trD c2] (fun i σ μ' => ∃ (xs : List Int) (a b c d e : Option D), Grow lo hi xs0 (6 * i) (([c1, c2].take i).flatMap bends) xs ∧ i ≤ 2 ∧ μ' = μ.set p (srcO s) ++ [.lst (xs.map .int)] ∧ σ = [some (.loc p), some (.int lo), some (.int hi), some (.loc t), some (.loc μ.length), a, b, c, d, e, none]) (Nat.le_of_ble_eq_true rfl)
    (fun i σ μ' ⟨xs, a, b, c, d, e, g1, g2, g3, g4⟩ => by rw [g3]; exact feeds_L (sT _ _)) (fun i x σ μ' hd ⟨xs, a, b, c, d, e, g1, g2, g3, g4⟩ => ?_) (fun σ μ' ⟨xs, a, b, c, d, e, g1, g2, g3, g4⟩ => ?_) ⟨xs0, _, _, _, _, _, Grow.refl g5, Nat.zero_le _, rfl, rfl⟩
  · -- one of the two triples
    obtain ⟨tr, htr, ex, et⟩ : ∃ tr : Tr, i < 2 ∧ x = trD tr ∧ ([c1, c2].take (i + 1)).flatMap bends = ([c1, c2].take i).flatMap bends ++ bends tr := by
      match i, hd with
      | 0, hd => cases hd; exact ⟨c1, by decide, rfl, by simp⟩
      | 1, hd => cases hd; exact ⟨c2, by decide, rfl, by simp⟩
      | n + 2, hd => cases hd
    subst ex g3 g4
    tm_at "w"
    refine w_forI ([tr.2.1 - tr.1, tr.2.2 - tr.1].map .int) (fun j σ μ' => ∃ (ys : List Int) (d e : Option D), Grow lo hi xs (3 * j) (([tr.2.1 - tr.1, tr.2.2 - tr.1].take j).flatMap edges) ys ∧ j ≤ 2 ∧ μ' = μ.set p (srcO s) ++ [.lst (ys.map .int)] ∧ σ = [some (.loc p), some (.int lo), some (.int hi), some (.loc t), some (.loc μ.length), some (.int tr.1), some (.int tr.2.1), some (.int tr.2.2), d, e, none]) (Nat.le_of_ble_eq_true rfl)
      (fun j σ μ' _ => feeds_of) (fun j x σ μ' hd ⟨ys, d, e, u1, u2, u3, u4⟩ => ?_) (fun σ μ' ⟨ys, d, e, u1, u2, u3, u4⟩ => ?_) ⟨xs, d, e, Grow.refl g1.rng, Nat.zero_le _, rfl, rfl⟩
    · obtain ⟨ed, hed, ex, et2⟩ := take_map hd
      have hj : j < 2 := (List.getElem?_eq_some_iff.mp hed).1
      subst ex u3 u4
      tm_at "w"
      refine w_forI ((edges ed).map .int) (fun l σ μ' => ∃ (zs : List Int) (e : Option D), Grow lo hi ys l ((edges ed).take l) zs ∧ l ≤ 3 ∧ μ' = μ.set p (srcO s) ++ [.lst (zs.map .int)] ∧ σ = [some (.loc p), some (.int lo), some (.int hi), some (.loc t), some (.loc μ.length), some (.int tr.1), some (.int tr.2.1), some (.int tr.2.2), some (.int ed), e, none]) (Nat.le_of_ble_eq_true rfl)
        (fun l σ μ' _ => feeds_of) (fun l x σ μ' hd ⟨zs, e, v1, v2, v3, v4⟩ => ?_) (fun σ μ' ⟨zs, e, v1, v2, v3, v4⟩ => ?_) ⟨ys, e, Grow.refl u1.rng, Nat.zero_le _, rfl, rfl⟩
      · obtain ⟨y, hy, ex, et3⟩ := take_map hd
        have hl3 : l < 3 := (List.getElem?_eq_some_iff.mp hy).1
        subst ex v3 v4
        have lz : (zs.map D.int).length < lineN := by
          rw [List.length_map]
          have a1 := v1.len
          have a2 := u1.len
          have a3 := g1.len
          exact Nat.lt_of_le_of_lt (show zs.length ≤ 100 by omega) (by decide)
        tm_at "w"
        refine c2D (fun w1 => ?_) (fun w1 => ?_)
        · tm_at "w"
          refine c2D (fun w2 => ?_) (fun w2 => ?_)
          · tm_at "w"
            refine w_isLst (sL _ _) ?_
            tm_at "w"
            refine w_append (sL _ _) lz ?_
            rw [sS]
            tm_at "w"
            refine ⟨zs ++ [y], _, ?_, hl3, by rw [List.map_append]; rfl, rfl⟩
            rw [et3]
            exact v1.put w1 w2
          · tm_at "w"
            refine ⟨zs, _, ?_, hl3, rfl, rfl⟩
            rw [et3]
            exact v1.skip fun z => w2 z.2
        · tm_at "w"
          refine ⟨zs, _, ?_, hl3, rfl, rfl⟩
          rw [et3]
          exact v1.skip fun z => w1 z.1
      · subst v3 v4
        tm_at "w"
        refine ⟨zs, _, _, ?_, hj, rfl, rfl⟩
        rw [et2, List.flatMap_append]
        have := u1.trans v1
        exact this
    · subst u3 u4
      tm_at "w"
      refine ⟨ys, _, _, _, _, _, ?_, by omega, rfl, rfl⟩
      rw [et]
      have := g1.trans u1
      exact this
  · subst g3 g4
    tm_at "w"
    refine ⟨⟨by decide, by decide⟩, ?_⟩
    refine w_forI ((List.range 3).map fun (k : Nat) => .int k) (fun i σ μ' => ∃ (ys : List Int) (s' : S3) (f : Option D), Grow lo hi xs i [] ys ∧ i ≤ 3 ∧ μ' = μ.set p (srcO s') ++ [.lst (ys.map .int)] ∧ σ = [some (.loc p), some (.int lo), some (.int hi), some (.loc t), some (.loc μ.length), a, b, c, d, e, f]) (by decide)
      (fun i σ μ' _ => feeds_R) (fun i x σ μ' hd ⟨ys, s', f, u1, u2, u3, u4⟩ => ?_) (fun σ μ' ⟨ys, s', f, u1, u2, u3, u4⟩ => ?_) ⟨xs, s, none, Grow.refl g1.rng, Nat.zero_le _, rfl, rfl⟩
    · have hi3 : i < 3 := by
        obtain ⟨z, _⟩ := List.getElem?_eq_some_iff.mp hd
        rw [List.length_map, List.length_range] at z
        exact z
      subst u3 u4
      tm_at "w"
      refine w_isLst (sL _ _) ?_
      tm_at "w"
      refine sp_draw (sG _ _) (by omega) (log_ok (by omega) (by omega)) fun d4 s4 a4 b4 => ?_
      rw [sP]
      tm_at "w"
      refine w_append (sL _ _) (by
        rw [List.length_map]
        have a1 := g1.len
        have a2 := u1.len
        exact Nat.lt_of_le_of_lt (show ys.length ≤ 100 by omega) (by decide)) ?_
      rw [sS]
      tm_at "w"
      refine ⟨ys ++ [lo + d4], s4, _, ?_, hi3, by rw [List.map_append]; rfl, rfl⟩
      have := u1.put (x := lo + d4) (by omega) (by omega)
      exact ⟨this.sub, this.rng, this.len, fun x hx => by cases hx⟩
    · subst u3 u4
      tm_at "w"
      have a1 := g1.len
      have a2 := u1.len
      refine q' _ s' ⟨u1.rng, u1.sub _ (g1.sub _ m0.1), u1.sub _ (g1.sub _ m0.2), by omega, fun x hx1 hx2 hx => u1.sub _ (g1.has x ?_ hx1 hx2)⟩
      rcases hx with rfl | rfl <;> simp
theorem w_eqTr {c d : Tr} (q : QB (decide (c = d)) μ) : Wp (cmpB .eq (trD c) (trD d) μ) QB E := by
  obtain ⟨a, b, e⟩ := c
  obtain ⟨a', b', e'⟩ := d
  have h : PyData.eqv (.tuple [.int a, .int b, .int e]) (.tuple [.int a', .int b', .int e']) = decide ((a, b, e) = (a', b', e')) := by
    show (a == a' && (b == b' && (e == e' && true))) = _
    by_cases h1 : a = a' <;> by_cases h2 : b = b' <;> by_cases h3 : e = e' <;> simp [h1, h2, h3]
  show QB (PyData.eqv (.tuple [.int a, .int b, .int e]) (.tuple [.int a', .int b', .int e'])) μ
  rw [h]
  exact q
theorem sp_is_triple {c : Tr} (q : Q (.bl true) μ) : Wp (callN fns (k + 2) 24 [trD c, trD c] μ) Q E := by
  refine w_fn rfl rfl ?_
  unfold f_law_is_triple d_law_is_triple
  tm_at "s"
  tm_at "w"
  tm_at "c"
  tm_at "w"
  refine w_lcP (ds := [D.int c.1, D.int c.2.1, D.int c.2.2]) (fun _ => true) (fun _ => .bl true) μ (Nat.le_of_ble_eq_true rfl) feeds_of (fun d hd => ?_) ?_
  · have hn : ∃ n, d = .int n := by
      simp only [List.mem_cons, List.not_mem_nil, or_false] at hd
      rcases hd with rfl | rfl | rfl <;> exact ⟨_, rfl⟩
    obtain ⟨n, rfl⟩ := hn
    tm_at "w"
    refine w_ret ⟨rfl, c2T ?_⟩
    tm_at "w"
    refine sp_lis_integer rfl ⟨rfl, rfl⟩
  · refine w_allI (bs := [true, true, true]) ?_
    refine blk (c2_of rfl ?_)
    tm_at "w"
    refine w_eqTr ?_
    rw [decide_eq_true rfl]
    tm_at "w"
    exact q
end
end K93

set_option Elab.async false
set_option linter.all false
set_option maxRecDepth 100000
set_option maxHeartbeats 0
namespace K93
open PySem PySem.Spec Mini

local macro_rules | `(tactic| tm_at "n") => `(tactic| first
  | with_reducible refine w_seq1 ?_
  | with_reducible refine w_seq ?_
  | with_reducible refine sq_rt ?_
  | with_reducible refine sq_ex ?_
  | with_reducible refine sq_ct ?_
  | with_reducible refine sq_bk ?_
  | ((with_reducible refine w_varQ ?_); first | refine vq_int ?_ | refine vq_tup ?_ | refine vq_loc ?_ | refine vq_bl ?_ | refine vq_rol ?_ | refine vq_str ?_ | refine vq_non ?_)
  | with_reducible refine w_K ?_
  | with_reducible refine c2T ?_
  | with_reducible refine c2F ?_
  | with_reducible refine c2N ?_
  | with_reducible refine blk ?_
  | with_reducible refine intk ?_
  | with_reducible refine w_asg ?_
  | with_reducible refine w_gN ?_
  | with_reducible refine w_sret ?_
  | with_reducible refine w_sif ?_
  | with_reducible refine w_tcmp ?_
  | with_reducible refine w_cmp ?_
  | with_reducible refine w_2 ?_
  | with_reducible refine w_1 ?_
  | with_reducible refine w_call ?_
  | with_reducible refine w_cons ?_
  | with_reducible refine w_nil ?_
  | with_reducible refine w_B ?_
  | with_reducible refine w_add ?_
  | with_reducible refine w_sub ?_
  | with_reducible refine w_neg ?_
  | ((with_reducible refine w_mul ?_ ?_); first | exact .inl (by decide) | exact .inr (.inl (by decide)))
  | ((with_reducible refine w_div ?_ ?_); exact ⟨by decide, by decide⟩)
  | ((with_reducible refine w_mod ?_ ?_); decide)
  | with_reducible refine w_pow30 ?_
  | with_reducible refine w_pow18 ?_
  | with_reducible refine w_eqI ?_
  | with_reducible refine w_neI ?_
  | with_reducible refine w_ltI ?_
  | with_reducible refine w_leI ?_
  | with_reducible refine w_gtI ?_
  | with_reducible refine w_geI ?_
  | with_reducible refine w_truB ?_
  | with_reducible refine w_tval ?_
  | with_reducible refine w_tnot ?_
  | with_reducible refine w_tand ?_
  | with_reducible refine w_tor ?_
  | with_reducible refine w_cif ?_
  | with_reducible refine w_cand ?_
  | with_reducible refine w_cor ?_
  | with_reducible refine w_cnot ?_
  | with_reducible refine w_chn ?_
  | with_reducible refine w_tchn ?_
  | with_reducible refine w_tup ?_
  | ((with_reducible refine lenK ?_ ?_); exact rfl)
  | with_reducible refine w_is1 ?_
  | ((with_reducible refine w_isQ ?_); refine oq ?_)
  | with_reducible refine w_is ?_
  | ((with_reducible refine w_isQs ?_); refine oq ?_)
  | with_reducible refine w_minI ?_
  | with_reducible refine w_maxI ?_
  | with_reducible refine w_absI ?_
  | with_reducible refine w_intI ?_
  | with_reducible refine w_lenT ?_
  | with_reducible refine w_lenR ?_
  | with_reducible refine w_sl ?_
  | with_reducible refine w_pno ?_
  | with_reducible refine w_psome ?_
  | with_reducible refine w_sexp ?_
  | with_reducible refine w_sretN ?_
  | with_reducible refine w_raise ?_
  | with_reducible refine w_snil ?_
  | with_reducible refine w_brk ?_
  | with_reducible refine w_cnt ?_
  | with_reducible refine w_for ?_
  | with_reducible refine w_iV ?_
  | with_reducible refine w_srcT ?_
  | with_reducible refine w_srcR ?_
  | with_reducible refine w_rng1' ?_
  | with_reducible refine w_BL ?_
  | with_reducible refine w_Lc ?_
  | with_reducible refine w_lcI ?_
  | ((with_reducible refine w_gT ?_ ?_); exact rfl)
  | with_reducible refine w_gsCons ?_
  | with_reducible refine w_gsNil ?_
  | with_reducible refine w_gI ?_
  | with_reducible refine w_M ?_
  | with_reducible refine w_lst ?_
  | with_reducible refine w_try ?_
  | with_reducible refine tk_nx ?_
  | with_reducible refine tk_ct ?_
  | with_reducible refine tk_bk ?_
  | with_reducible refine tk_rt ?_
  | with_reducible refine tk_ex ?_
  | with_reducible refine fk_nx ?_
  | with_reducible refine fk_rt ?_
  | with_reducible refine fk_ex ?_
  | with_reducible refine try_rt ?_
  | with_reducible refine try_nx ?_
  | with_reducible refine cat_rt ?_
  | with_reducible refine ek ?_
  | with_reducible refine retQ_same ?_
  | with_reducible refine retE_same ?_)
local macro_rules | `(tactic| tm_at "s") => `(tactic| simp only [Mini.start, List.map_cons, List.map_nil, List.length_cons, List.length_nil, List.replicate, List.cons_append, List.nil_append, Nat.reduceAdd, Nat.reduceSub, List.append_nil])
local macro_rules | `(tactic| tm_at "w") => `(tactic| repeat (first | with_reducible refine sq_nx ?_ | tm_at "n"))
local macro_rules | `(tactic| tm_at "v") => `(tactic| repeat tm_at "n")
local macro_rules | `(tactic| tm_at "c") => `(tactic| first | refine c2_of rfl ?_ | refine c2_ofF rfl ?_)

section
variable {Q : D → Store → Prop} {QB : Bool → Store → Prop} {E : Nat → List D → Store → Prop} {μ : Store} {k : Nat}
structure BB (lo hi : Int) : Prop where
  lo_ : -1000000000000000000000000000000 ≤ lo
  le : lo ≤ hi
  hi_ : hi ≤ 1000000000000000000000000000000
theorem sp_every_start {t : Nat} {lo hi : Int} {ms xs : List Int} (b : BB lo hi) (hm : MV ms) (ht : μ[t]? = some (.lst (xs.map .int))) (hx : ∀ x ∈ xs, lo ≤ x ∧ x ≤ hi) (hl : xs.length ≤ 100) (q : Q (.bl true) μ) : Wp (callN fns (k + 6) 25 [.int lo, .int hi, intsT ms, .loc t] μ) Q E := by
  refine w_fn rfl rfl ?_
  unfold f_law_every_start d_law_every_start
  tm_at "s"
  tm_at "w"
  have hl2 : ms.length < 1000000000 := Nat.lt_of_le_of_lt hm.len (by decide)
  refine sp_clamp b.lo_ b.le b.hi_ hm.big hm.len ?_
  tm_at "w"
  refine sp_triple b.le hl2 ?_
  tm_at "w"
  refine sp_is_triple ?_
  tm_at "w"
  refine w_srcL ht ?_
  refine w_forI (xs.map .int) (fun i σ μ' => ∃ (c d e : Option D), μ' = μ ∧ σ = [some (.int lo), some (.int hi), some (intsT ms), some (.loc t), some (trD (triple lo hi ms)), c, d, e]) (by rw [List.length_map]; omega)
    (fun i σ μ' ⟨c, d, e, u1, u2⟩ => by rw [u1]; exact feeds_L ht) (fun i x σ μ' hd ⟨c, d, e, u1, u2⟩ => ?_) (fun σ μ' ⟨c, d, e, u1, u2⟩ => ?_) ⟨_, _, _, rfl, rfl⟩
  · obtain ⟨y, hy, rfl⟩ := map_at hd
    have hy2 := hx y (List.mem_of_getElem? hy)
    subst u1 u2
    tm_at "w"
    refine sp_held b.le hl2 ?_
    tm_at "w"
    refine sp_clamped b.lo_ b.le b.hi_ hy2 hm.big hm.len ?_
    tm_at "w"
    refine sp_apply ?_
    rw [app_triple b.le ms hy2.1 hy2.2]
    tm_at "w"
    generalize held lo hi y ms = z
    refine w_forI [.int z, .int z] (fun i σ μ'' => ∃ (e : Option D), μ'' = μ' ∧ σ = [some (.int lo), some (.int hi), some (intsT ms), some (.loc t), some (trD (triple lo hi ms)), some (.int y), some (.int z), e]) (Nat.le_of_ble_eq_true rfl)
      (fun i σ μ' _ => feeds_of) (fun i x σ μ'' hd ⟨e, u1, u2⟩ => ?_) (fun σ μ'' ⟨e, u1, u2⟩ => ?_) ⟨_, rfl, rfl⟩
    · have hx : x = .int z := by
        match i, hd with
        | 0, hd => cases hd; rfl
        | 1, hd => cases hd; rfl
        | n + 2, hd => cases hd
      subst hx u1 u2
      tm_at "w"
      refine sp_lis_integer rfl ?_
      tm_at "w"
      refine c2_of rfl ?_
      tm_at "w"
      refine c2_of (decide_eq_true rfl) ?_
      tm_at "w"
      exact ⟨_, rfl, rfl⟩
    · subst u1 u2
      tm_at "w"
      exact ⟨_, _, _, rfl, rfl⟩
  · subst u1 u2
    tm_at "w"
    exact q
theorem sp_every_cut {lo hi : Int} {ms : List Int} (b : BB lo hi) (hm : MV ms) (q : Q (.bl true) μ) : Wp (callN fns (k + 6) 28 [.int lo, .int hi, intsT ms] μ) Q E := by
  refine w_fn rfl rfl ?_
  unfold f_law_every_cut d_law_every_cut
  tm_at "s"
  tm_at "w"
  have hl2 : ms.length < 1000000000 := Nat.lt_of_le_of_lt hm.len (by decide)
  refine sp_triple b.le hl2 ?_
  have hl := hm.len
  tm_at "w"
  refine ⟨⟨by rw [List.length_map]; omega, by rw [List.length_map]; omega⟩, ?_⟩
  rw [List.length_map]
  refine w_forI ((List.range (((ms.length : Int) + 1)).toNat).map fun (k : Nat) => .int k) (fun i σ μ' => ∃ (d e : Option D), μ' = μ ∧ σ = [some (.int lo), some (.int hi), some (intsT ms), some (trD (triple lo hi ms)), d, e]) (by rw [List.length_map, List.length_range]; omega)
    (fun i σ μ' _ => feeds_R) (fun i x σ μ' hd ⟨d, e, u1, u2⟩ => ?_) (fun σ μ' ⟨d, e, u1, u2⟩ => ?_) ⟨_, _, rfl, rfl⟩
  · have hi3 : ∃ j : Nat, x = .int j := by
      rw [List.getElem?_map] at hd
      obtain ⟨m, h1, h2⟩ := Option.map_eq_some_iff.mp hd
      exact ⟨m, h2.symm⟩
    obtain ⟨j, rfl⟩ := hi3
    subst u1 u2
    tm_at "w"
    refine w_slTo (by omega) ?_
    tm_at "w"
    have m1 : MV (ms.take (j : Int).toNat) := ⟨by rw [List.length_take]; omega, fun m h => hm.big m (List.mem_of_mem_take h)⟩
    have m2 : MV (ms.drop (j : Int).toNat) := ⟨by rw [List.length_drop]; omega, fun m h => hm.big m (List.mem_of_mem_drop h)⟩
    refine sp_clamp b.lo_ b.le b.hi_ m1.big m1.len ?_
    tm_at "w"
    refine w_slFrom (by omega) ?_
    tm_at "w"
    refine sp_clamp b.lo_ b.le b.hi_ m2.big m2.len ?_
    tm_at "w"
    refine sp_join ?_
    rw [join_triple b.le, List.take_append_drop]
    tm_at "w"
    refine sp_is_triple ?_
    tm_at "w"
    exact ⟨_, _, rfl, rfl⟩
  · subst u1 u2
    tm_at "w"
    exact q
/-! ### pieces -/
abbrev pcsO (ps : List (List Int)) : Ob := .lst (ps.map intsT)
theorem sp_pieces {p : Nat} {o : Ob} {s : S3} {ms : List Int} (h : μ[p]? = some o) (hl : ms.length ≤ 1000)
    (q : ∀ (ps : List (List Int)) (s' : S3), ps.flatten = ms → 1 ≤ ps.length → ps.length ≤ 5 → Q (.loc μ.length) (μ.set p (srcO s') ++ [pcsO ps])) : Wp (callN fns (k + 2) 26 [.loc p, intsT ms] (μ.set p (srcO s))) Q E := by
  refine w_fn rfl rfl ?_
  have q' : ∀ (ps : List (List Int)) (s' : S3), ps.flatten = ms → 1 ≤ ps.length → ps.length ≤ 5 → retQ (μ.set p (srcO s)).length (.loc μ.length) (μ.set p (srcO s') ++ [pcsO ps]) Q := fun ps s' u1 u2 u3 => by
    refine ⟨fun z => ?_, fun _ => q ps s' u1 u2 u3⟩
    rw [List.length_set] at z
    have : μ.length < μ.length := of_decide_eq_true z
    omega
  have hL : (μ.set p (srcO s)).length = μ.length := List.length_set
  generalize (μ.set p (srcO s)).length = nn at q' hL
  have sL : ∀ (s : S3) (xs : List D), (μ.set p (srcO s) ++ [Ob.lst xs])[μ.length]? = some (.lst xs) := fun s xs => by
    rw [List.getElem?_append_right (by rw [List.length_set]; exact Nat.le_refl _), List.length_set]
    simp
  have hplt : p < μ.length := (List.getElem?_eq_some_iff.mp h).1
  have sS : ∀ (s : S3) (xs ys : List D), (μ.set p (srcO s) ++ [Ob.lst xs]).set μ.length (.lst ys) = μ.set p (srcO s) ++ [Ob.lst ys] := fun s xs ys => by
    rw [List.set_append_right _ _ (by rw [List.length_set]; exact Nat.le_refl _), List.length_set]
    simp
  have sP : ∀ (s s' : S3) (xs : List D), (μ.set p (srcO s) ++ [Ob.lst xs]).set p (srcO s') = μ.set p (srcO s') ++ [Ob.lst xs] := fun s s' xs => by
    rw [List.set_append_left _ _ (by rw [List.length_set]; exact hplt), List.set_set]
  have sG : ∀ (s : S3) (xs : List D), (μ.set p (srcO s) ++ [Ob.lst xs])[p]? = some (srcO s) := fun s xs => by
    rw [List.getElem?_append_left (by rw [List.length_set]; exact hplt)]
    exact set_get h
  have hL2 : (μ.set p (srcO s)).length = μ.length := List.length_set
  unfold f_law_pieces d_law_pieces
  tm_at "s"
  tm_at "w"
  rw [hL2]
  refine sp_draw (sG _ _) (by decide) (by decide) fun n s1 a1 b1 => ?_
  rw [sP]
  tm_at "w"
  refine ⟨⟨by omega, by omega⟩, ?_⟩
  refine w_forI ((List.range n.toNat).map fun (k : Nat) => .int k) (fun i σ μ' => ∃ (ps : List (List Int)) (left : List Int) (s' : S3) (d e : Option D), ps.flatten ++ left = ms ∧ ps.length = i ∧ i ≤ n.toNat ∧ μ' = μ.set p (srcO s') ++ [pcsO ps] ∧ σ = [some (.loc p), some (intsT ms), some (.loc μ.length), some (intsT left), d, e]) (by rw [List.length_map, List.length_range]; omega)
    (fun i σ μ' _ => feeds_R) (fun i x σ μ' hd ⟨ps, left, s', d, e, u1, u2, u3, u4, u5⟩ => ?_) (fun σ μ' ⟨ps, left, s', d, e, u1, u2, u3, u4, u5⟩ => ?_) ⟨[], ms, s1, none, none, rfl, rfl, Nat.zero_le _, rfl, rfl⟩
  · have hi3 : i < n.toNat := by
      obtain ⟨z, _⟩ := List.getElem?_eq_some_iff.mp hd
      rw [List.length_map, List.length_range] at z
      exact z
    have hx : ∃ j : Int, x = .int j := by
      rw [List.getElem?_map] at hd
      obtain ⟨m, h1, h2⟩ := Option.map_eq_some_iff.mp hd
      exact ⟨m, h2.symm⟩
    obtain ⟨j, rfl⟩ := hx
    have hleft : left.length ≤ 1000 := by
      rw [← u1, List.length_append] at hl
      omega
    subst u4 u5
    tm_at "w"
    rw [List.length_map]
    refine sp_draw (sG _ _) (by omega) (log_ok (by omega) (by omega)) fun pl s4 a4 b4 => ?_
    rw [sP]
    tm_at "w"
    refine w_isLst (sL _ _) ?_
    tm_at "w"
    refine w_slTo a4 ?_
    tm_at "w"
    refine w_append (sL _ _) (by rw [List.length_map, u2]; exact Nat.lt_of_le_of_lt (show i ≤ 100 by omega) (by decide)) ?_
    rw [sS]
    tm_at "w"
    refine w_slFrom a4 ?_
    tm_at "w"
    refine ⟨ps ++ [left.take pl.toNat], left.drop pl.toNat, s4, _, _, ?_, by rw [List.length_append, u2]; rfl, hi3, by unfold pcsO; rw [List.map_append]; rfl, rfl⟩
    rw [List.flatten_append, List.append_assoc]
    show ps.flatten ++ (([left.take pl.toNat].flatten) ++ left.drop pl.toNat) = ms
    rw [show [left.take pl.toNat].flatten = left.take pl.toNat by simp, List.take_append_drop, u1]
  · rw [List.length_map, List.length_range] at u2
    subst u4 u5
    tm_at "w"
    refine w_isLst (sL _ _) ?_
    tm_at "w"
    refine w_append (sL _ _) (by rw [List.length_map, u2]; exact Nat.lt_of_le_of_lt (show n.toNat ≤ 100 by omega) (by decide)) ?_
    rw [sS]
    tm_at "w"
    have := q' (ps ++ [left]) s' (by rw [List.flatten_append]; simpa using u1) (by rw [List.length_append]; show 1 ≤ ps.length + 1; omega) (by rw [List.length_append]; show ps.length + 1 ≤ 5; omega)
    unfold pcsO at this
    rw [List.map_append] at this
    exact this
end
end K93

set_option Elab.async false
set_option linter.all false
set_option maxRecDepth 100000
set_option maxHeartbeats 0
namespace K93
open PySem PySem.Spec Mini

local macro_rules | `(tactic| tm_at "n") => `(tactic| first
  | with_reducible refine w_seq1 ?_
  | with_reducible refine w_seq ?_
  | with_reducible refine sq_rt ?_
  | with_reducible refine sq_ex ?_
  | with_reducible refine sq_ct ?_
  | with_reducible refine sq_bk ?_
  | ((with_reducible refine w_varQ ?_); first | refine vq_int ?_ | refine vq_tup ?_ | refine vq_loc ?_ | refine vq_bl ?_ | refine vq_rol ?_ | refine vq_str ?_ | refine vq_non ?_)
  | with_reducible refine w_K ?_
  | with_reducible refine c2T ?_
  | with_reducible refine c2F ?_
  | with_reducible refine c2N ?_
  | with_reducible refine blk ?_
  | with_reducible refine intk ?_
  | with_reducible refine w_asg ?_
  | with_reducible refine w_gN ?_
  | with_reducible refine w_sret ?_
  | with_reducible refine w_sif ?_
  | with_reducible refine w_tcmp ?_
  | with_reducible refine w_cmp ?_
  | with_reducible refine w_2 ?_
  | with_reducible refine w_1 ?_
  | with_reducible refine w_call ?_
  | with_reducible refine w_cons ?_
  | with_reducible refine w_nil ?_
  | with_reducible refine w_B ?_
  | with_reducible refine w_add ?_
  | with_reducible refine w_sub ?_
  | with_reducible refine w_neg ?_
  | ((with_reducible refine w_mul ?_ ?_); first | exact .inl (by decide) | exact .inr (.inl (by decide)))
  | ((with_reducible refine w_div ?_ ?_); exact ⟨by decide, by decide⟩)
  | ((with_reducible refine w_mod ?_ ?_); decide)
  | with_reducible refine w_pow30 ?_
  | with_reducible refine w_pow18 ?_
  | with_reducible refine w_eqI ?_
  | with_reducible refine w_neI ?_
  | with_reducible refine w_ltI ?_
  | with_reducible refine w_leI ?_
  | with_reducible refine w_gtI ?_
  | with_reducible refine w_geI ?_
  | with_reducible refine w_truB ?_
  | with_reducible refine w_tval ?_
  | with_reducible refine w_tnot ?_
  | with_reducible refine w_tand ?_
  | with_reducible refine w_tor ?_
  | with_reducible refine w_cif ?_
  | with_reducible refine w_cand ?_
  | with_reducible refine w_cor ?_
  | with_reducible refine w_cnot ?_
  | with_reducible refine w_chn ?_
  | with_reducible refine w_tchn ?_
  | with_reducible refine w_tup ?_
  | ((with_reducible refine lenK ?_ ?_); exact rfl)
  | with_reducible refine w_is1 ?_
  | ((with_reducible refine w_isQ ?_); refine oq ?_)
  | with_reducible refine w_is ?_
  | ((with_reducible refine w_isQs ?_); refine oq ?_)
  | with_reducible refine w_minI ?_
  | with_reducible refine w_maxI ?_
  | with_reducible refine w_absI ?_
  | with_reducible refine w_intI ?_
  | with_reducible refine w_lenT ?_
  | with_reducible refine w_lenR ?_
  | with_reducible refine w_sl ?_
  | with_reducible refine w_pno ?_
  | with_reducible refine w_psome ?_
  | with_reducible refine w_sexp ?_
  | with_reducible refine w_sretN ?_
  | with_reducible refine w_raise ?_
  | with_reducible refine w_snil ?_
  | with_reducible refine w_brk ?_
  | with_reducible refine w_cnt ?_
  | with_reducible refine w_for ?_
  | with_reducible refine w_iV ?_
  | with_reducible refine w_srcT ?_
  | with_reducible refine w_srcR ?_
  | with_reducible refine w_rng1' ?_
  | with_reducible refine w_BL ?_
  | with_reducible refine w_Lc ?_
  | with_reducible refine w_lcI ?_
  | ((with_reducible refine w_gT ?_ ?_); exact rfl)
  | with_reducible refine w_gsCons ?_
  | with_reducible refine w_gsNil ?_
  | with_reducible refine w_gI ?_
  | with_reducible refine w_M ?_
  | with_reducible refine w_lst ?_
  | with_reducible refine w_try ?_
  | with_reducible refine tk_nx ?_
  | with_reducible refine tk_ct ?_
  | with_reducible refine tk_bk ?_
  | with_reducible refine tk_rt ?_
  | with_reducible refine tk_ex ?_
  | with_reducible refine fk_nx ?_
  | with_reducible refine fk_rt ?_
  | with_reducible refine fk_ex ?_
  | with_reducible refine try_rt ?_
  | with_reducible refine try_nx ?_
  | with_reducible refine cat_rt ?_
  | with_reducible refine ek ?_
  | with_reducible refine retQ_same ?_
  | with_reducible refine retE_same ?_)
local macro_rules | `(tactic| tm_at "s") => `(tactic| simp only [Mini.start, List.map_cons, List.map_nil, List.length_cons, List.length_nil, List.replicate, List.cons_append, List.nil_append, Nat.reduceAdd, Nat.reduceSub, List.append_nil])
local macro_rules | `(tactic| tm_at "w") => `(tactic| repeat (first | with_reducible refine sq_nx ?_ | tm_at "n"))
local macro_rules | `(tactic| tm_at "v") => `(tactic| repeat tm_at "n")
local macro_rules | `(tactic| tm_at "c") => `(tactic| first | refine c2_of rfl ?_ | refine c2_ofF rfl ?_)

section
variable {Q : D → Store → Prop} {QB : Bool → Store → Prop} {E : Nat → List D → Store → Prop} {μ : Store} {k : Nat}
theorem wf_set {n p : Nat} {s : S3} (h : μ.all (Ob.lt n) = true) : (μ.set p (srcO s)).all (Ob.lt n) = true := by
  rw [List.all_eq_true] at h ⊢
  intro o ho
  rcases List.mem_or_eq_of_mem_set ho with ho | rfl
  · exact h o ho
  · simp [Ob.lt, lts, D.lt]
/-- rows of values at two places -/
theorem row_at {α : Type} (f : α → D) {xs : List α} {i : Nat} {x : α} (h : xs[i]? = some x) : (xs.map f)[i]? = some (f x) := by
  rw [List.getElem?_map, h]
  rfl
theorem w_slLm {α : Type} {f : α → D} {n : Nat} {xs : List α} {i : Int} (hn : μ[n]? = some (.lst (xs.map f))) (h : 0 ≤ i) (q : Q (.loc μ.length) (μ ++ [.lst ((xs.take i.toNat).map f)])) : Wp (slD (.loc n) none (some i) μ) Q E := by
  refine w_slL hn ?_
  rw [cutL_map, cutL_to h]
  exact q
theorem w_slLf {α : Type} {f : α → D} {n : Nat} {xs : List α} {i : Int} (hn : μ[n]? = some (.lst (xs.map f))) (h : 0 ≤ i) (q : Q (.loc μ.length) (μ ++ [.lst ((xs.drop i.toNat).map f)])) : Wp (slD (.loc n) (some i) none μ) Q E := by
  refine w_slL hn ?_
  rw [cutL_map, cutL_from h]
  exact q
theorem w_ixLm {α : Type} {f : α → D} {n : Nat} {xs : List α} {i : Int} {x : α} (hn : μ[n]? = some (.lst (xs.map f))) (h : 0 ≤ i) (e : xs[i.toNat]? = some x) (q : Q (f x) μ) : Wp (ixD (.loc n) (.int i) μ) Q E := by
  obtain ⟨hl, _⟩ := List.getElem?_eq_some_iff.mp e
  refine w_ixL hn ?_ q
  rw [atI_of h (by rw [List.length_map]; omega), List.getElem?_map, e]
  rfl
/-- one place of a row replaced by what two neighbours are together -/
theorem w_merge {α : Type} {f : α → D} {σ : Mini.Env} {sl sp sx n : Nat} {xs : List α} {pl : Int} {y : α} (e1 : σ[sl]? = some (some (.loc n))) (e2 : σ[sp]? = some (some (.int pl))) (e3 : σ[sx]? = some (some (f y))) (e4 : ∀ c fs, f y ≠ .exn c fs) (hn : μ[n]? = some (.lst (xs.map f))) (h0 : 0 ≤ pl) (hl : xs.length ≤ 1000)
    (q : Q (.loc (μ.length + 4)) (μ ++ [.lst ((xs.take pl.toNat).map f), .lst [f y], .lst ((xs.take pl.toNat ++ [y]).map f), .lst ((xs.drop (pl + 2).toNat).map f), .lst ((xs.take pl.toNat ++ [y] ++ xs.drop (pl + 2).toNat).map f)])) :
    Wp (c2 addD (c2 addD (cSl (cVar sl) pNo (pSome (cVar sp))) (cLst (aCons (cVar sx) aNil))) (cSl (cVar sl) (pSome (c2 addD (cVar sp) (cK (.int 2)))) pNo) σ μ) Q E := by
  have v1 : ∀ {μ : Store} {Q : D → Store → Prop}, Q (.loc n) μ → Wp (cVar sl σ μ) Q E := fun q => by
    refine w_varQ ?_
    rw [e1]
    exact vq_loc q
  have v2 : ∀ {μ : Store} {Q : D → Store → Prop}, Q (.int pl) μ → Wp (cVar sp σ μ) Q E := fun q => by
    refine w_varQ ?_
    rw [e2]
    exact vq_int q
  have v3 : ∀ {μ : Store} {Q : D → Store → Prop}, Q (f y) μ → Wp (cVar sx σ μ) Q E := fun q => w_var e3 e4 q
  have hnl : n < μ.length := (List.getElem?_eq_some_iff.mp hn).1
  have ln1 : (xs.take pl.toNat).length ≤ 1000 := by rw [List.length_take]; omega
  have ln2 : (xs.drop (pl + 2).toNat).length ≤ 1000 := by rw [List.length_drop]; omega
  refine w_2 (w_2 (w_sl (v1 (w_pno (w_psome (v2 (intk (w_slLm hn h0 ?_))))))))
  refine w_lst (w_cons (v3 (w_nil (lenK rfl ?_))))
  have g1 : (μ ++ [Ob.lst ((xs.take pl.toNat).map f)] ++ [Ob.lst [f y]])[μ.length]? = some (.lst ((xs.take pl.toNat).map f)) := by simp
  have g2 : (μ ++ [Ob.lst ((xs.take pl.toNat).map f)] ++ [Ob.lst [f y]])[(μ ++ [Ob.lst ((xs.take pl.toNat).map f)]).length]? = some (.lst [f y]) := by simp
  refine w_addL g1 g2 (by
    rw [List.length_append, List.length_map]
    exact Nat.le_trans (Nat.add_le_add_right ln1 _) (Nat.le_of_ble_eq_true rfl)) ?_
  rw [show (xs.take pl.toNat).map f ++ [f y] = (xs.take pl.toNat ++ [y]).map f by rw [List.map_append]; rfl]
  have hn3 : (μ ++ [Ob.lst ((xs.take pl.toNat).map f)] ++ [Ob.lst [f y]] ++ [Ob.lst ((xs.take pl.toNat ++ [y]).map f)])[n]? = some (.lst (xs.map f)) := by
    rw [List.append_assoc, List.append_assoc, List.getElem?_append_left hnl]
    exact hn
  refine w_sl (v1 (w_psome (w_2 (v2 (w_K (w_add (intk (w_pno (w_slLf hn3 (by omega) ?_)))))))))
  generalize hμ : μ ++ [Ob.lst ((xs.take pl.toNat).map f)] ++ [Ob.lst [f y]] ++ [Ob.lst ((xs.take pl.toNat ++ [y]).map f)] = μ3
  have l3 : μ3.length = μ.length + 3 := by rw [← hμ]; simp
  have g3 : (μ3 ++ [Ob.lst ((xs.drop (pl + 2).toNat).map f)])[(μ ++ [Ob.lst ((xs.take pl.toNat).map f)] ++ [Ob.lst [f y]]).length]? = some (.lst ((xs.take pl.toNat ++ [y]).map f)) := by
    rw [← hμ]
    simp
  have g4 : (μ3 ++ [Ob.lst ((xs.drop (pl + 2).toNat).map f)])[μ3.length]? = some (.lst ((xs.drop (pl + 2).toNat).map f)) := by simp
  refine w_addL g3 g4 (by
    rw [List.length_append, List.length_map, List.length_map, List.length_append]
    show (xs.take pl.toNat).length + 1 + (xs.drop (pl + 2).toNat).length ≤ lineN
    exact Nat.le_trans (show (xs.take pl.toNat).length + 1 + (xs.drop (pl + 2).toNat).length ≤ 2001 by omega) (Nat.le_of_ble_eq_true rfl)) ?_
  rw [← List.map_append, List.length_append, l3]
  rw [← hμ]
  simpa using q
theorem sum_merge {L : List (List Int)} {pl : Nat} {a b : List Int} (h1 : L[pl]? = some a) (h2 : L[pl + 1]? = some b) : (L.take pl ++ [a ++ b] ++ L.drop (pl + 2)).flatten = L.flatten := by
  have e : L = L.take pl ++ (a :: b :: L.drop (pl + 2)) := by
    have e1 : L.drop pl = a :: L.drop (pl + 1) := by
      obtain ⟨hl, e⟩ := List.getElem?_eq_some_iff.mp h1
      rw [List.drop_eq_getElem_cons hl, e]
    have e2 : L.drop (pl + 1) = b :: L.drop (pl + 2) := by
      obtain ⟨hl, e⟩ := List.getElem?_eq_some_iff.mp h2
      rw [List.drop_eq_getElem_cons hl, e]
    rw [← e2, ← e1, List.take_append_drop]
  conv => rhs; rw [e]
  simp
theorem sp_joined {p t : Nat} {o : Ob} {s : S3} {lo hi : Int} {ps : List (List Int)} (b : BB lo hi) (h : μ[p]? = some o) (ht : μ[t]? = some (pcsO ps)) (hpt : p ≠ t) (hw : μ.all (Ob.lt μ.length) = true) (hm : ∀ m ∈ ps, MV m) (h1 : 1 ≤ ps.length) (h5 : ps.length ≤ 5) (hF : ps.flatten.length ≤ 1000)
    (q : ∀ (s' : S3), Q (.bl true) (μ.set p (srcO s'))) : Wp (callN fns (k + 6) 27 [.loc p, .int lo, .int hi, .loc t] (μ.set p (srcO s))) Q E := by
  refine w_fn rfl rfl ?_
  have hL : (μ.set p (srcO s)).length = μ.length := List.length_set
  rw [hL]
  have hplt : p < μ.length := (List.getElem?_eq_some_iff.mp h).1
  have htlt : t < μ.length := (List.getElem?_eq_some_iff.mp ht).1
  unfold f_law_joined d_law_joined
  tm_at "s"
  tm_at "w"
  have ht2 : ∀ s, (μ.set p (srcO s))[t]? = some (pcsO ps) := fun s => by rw [List.getElem?_set_ne hpt]; exact ht
  refine w_srcL (ht2 s) ?_
  refine w_lcP (ds := ps.map intsT) (fun _ => true) (fun d => match d with
    | .tup xs => trD (triple lo hi ((intsOf xs).getD []))
    | d => d) (μ.set p (srcO s)) (by rw [List.length_map]; exact Nat.lt_of_le_of_lt h5 (by decide)) (feeds_L (ht2 s)) (fun d hd => ?_) ?_
  · obtain ⟨m, hmm, rfl⟩ := List.mem_map.mp hd
    have mv := hm m hmm
    tm_at "w"
    refine w_ret ⟨rfl, c2T ?_⟩
    tm_at "w"
    refine sp_clamp b.lo_ b.le b.hi_ mv.big mv.len ⟨?_, rfl⟩
    show trD (triple lo hi m) = trD (triple lo hi ((intsOf (m.map D.int)).getD []))
    rw [intsOf_map]
    rfl
  rw [List.filter_eq_self.mpr (fun _ _ => rfl), List.map_map]
  have e2 : (ps.map ((fun d : D => match d with
    | .tup xs => trD (triple lo hi ((intsOf xs).getD []))
    | d => d) ∘ intsT)) = ps.map fun m => trD (triple lo hi m) := by
    refine List.map_congr_left fun m _ => ?_
    show trD (triple lo hi ((intsOf (m.map D.int)).getD [])) = _
    rw [intsOf_map]
    rfl
  rw [e2, hL]
  tm_at "w"
  have ht3 : (μ.set p (srcO s) ++ [Ob.lst (ps.map fun m => trD (triple lo hi m))])[t]? = some (pcsO ps) := by
    rw [List.getElem?_append_left (by rw [hL]; exact htlt)]
    exact ht2 s
  refine w_len ht3 ?_
  tm_at "w"
  rw [List.length_map]
  refine ⟨⟨by omega, by omega⟩, ?_⟩
  refine w_forI ((List.range ((ps.length : Int) - 1).toNat).map fun (k : Nat) => .int k) (fun i σ μ' => ∃ (L : List (List Int)) (s' : S3) (tail : Store) (u v : Nat) (c d e f g : Option D), L.length + i = ps.length ∧ L.flatten = ps.flatten ∧ i ≤ ps.length - 1 ∧ p ≠ u ∧ p ≠ v ∧ μ' = μ.set p (srcO s') ++ tail ∧ μ'[u]? = some (pcsO L) ∧ μ'[v]? = some (.lst (L.map fun m => trD (triple lo hi m))) ∧
      σ = [some (.loc p), some (.int lo), some (.int hi), some (.loc t), some (.loc u), some (.loc v), c, d, e, f, g]) (by rw [List.length_map, List.length_range]; omega)
    (fun i σ μ' _ => feeds_R) (fun i x σ μ' hd ⟨L, s', tail, u, v, c, d, e, f, g, q1, q2, q3, q4, q5, q6, q7, q8, q9⟩ => ?_) (fun σ μ' ⟨L, s', tail, u, v, c, d, e, f, g, q1, q2, q3, q4, q5, q6, q7, q8, q9⟩ => ?_)
    ⟨ps, s, _, t, μ.length, none, none, none, none, none, by omega, rfl, Nat.zero_le _, hpt, by omega, rfl, ht3, by rw [List.getElem?_append_right (by rw [hL]; exact Nat.le_refl _), hL]; simp, rfl⟩
  · have hi3 : i < ps.length - 1 := by
      obtain ⟨z, _⟩ := List.getElem?_eq_some_iff.mp hd
      rw [List.length_map, List.length_range] at z
      omega
    have hx : ∃ j : Int, x = .int j := by
      rw [List.getElem?_map] at hd
      obtain ⟨m, h1, h2⟩ := Option.map_eq_some_iff.mp hd
      exact ⟨m, h2.symm⟩
    obtain ⟨j, rfl⟩ := hx
    subst q6 q9
    tm_at "w"
    refine w_len q7 ?_
    tm_at "w"
    rw [List.length_map]
    have hp3 : (μ.set p (srcO s') ++ tail)[p]? = some (srcO s') := by
      rw [List.getElem?_append_left (by rw [List.length_set]; exact hplt)]
      exact set_get h
    refine sp_draw hp3 (by omega) (log_ok (by omega) (by omega)) fun pl s4 a4 b4 => ?_
    rw [List.set_append_left _ _ (by rw [List.length_set]; exact hplt), List.set_set]
    have r7 : (μ.set p (srcO s4) ++ tail)[u]? = some (pcsO L) := by
      have := q7
      rw [show (μ.set p (srcO s4) ++ tail) = (μ.set p (srcO s') ++ tail).set p (srcO s4) by rw [List.set_append_left _ _ (by rw [List.length_set]; exact hplt), List.set_set], List.getElem?_set_ne q4]
      exact this
    have r8 : (μ.set p (srcO s4) ++ tail)[v]? = some (.lst (L.map fun m => trD (triple lo hi m))) := by
      have := q8
      rw [show (μ.set p (srcO s4) ++ tail) = (μ.set p (srcO s') ++ tail).set p (srcO s4) by rw [List.set_append_left _ _ (by rw [List.length_set]; exact hplt), List.set_set], List.getElem?_set_ne q5]
      exact this
    generalize hμ4 : μ.set p (srcO s4) ++ tail = μ4 at r7 r8 ⊢
    have lt1 : pl.toNat < L.length := by omega
    have lt2 : (pl + 1).toNat < L.length := by omega
    have pe : (pl + 1).toNat = pl.toNat + 1 := by omega
    have pe2 : (pl + 2).toNat = pl.toNat + 2 := by omega
    have a1 : L[pl.toNat]? = some L[pl.toNat] := List.getElem?_eq_getElem lt1
    have a2 : L[(pl + 1).toNat]? = some L[(pl + 1).toNat] := List.getElem?_eq_getElem lt2
    have lF : (L[pl.toNat] ++ L[(pl + 1).toNat]).length ≤ 1000 := by
      have := sum_merge (L := L) (pl := pl.toNat) a1 (by rw [← pe]; exact a2)
      have z : (L[pl.toNat] ++ L[(pl + 1).toNat]).length ≤ (L.take pl.toNat ++ [L[pl.toNat] ++ L[(pl + 1).toNat]] ++ L.drop (pl.toNat + 2)).flatten.length := by
        simp only [List.flatten_append, List.length_append, List.flatten_cons, List.flatten_nil, List.append_nil]
        omega
      rw [this, q2] at z
      omega
    generalize L[pl.toNat] = A at a1 lF
    generalize L[(pl + 1).toNat] = B at a2 lF
    tm_at "w"
    refine w_ixLm (f := intsT) r7 a4 a1 ?_
    tm_at "w"
    refine w_ixLm (f := intsT) r7 (by omega) a2 ?_
    rw [List.length_append] at lF
    refine w_addM (by omega) (by omega) ?_
    tm_at "w"
    refine w_ixLm (f := fun m => trD (triple lo hi m)) r8 a4 a1 ?_
    tm_at "w"
    refine w_ixLm (f := fun m => trD (triple lo hi m)) r8 (by omega) a2 ?_
    tm_at "w"
    refine sp_join ?_
    rw [join_triple b.le]
    tm_at "w"
    refine sp_triple b.le (by rw [List.length_append]; omega) ?_
    tm_at "w"
    refine sp_is_triple ?_
    with_reducible refine w_truB ?_
    with_reducible refine c2N ?_
    with_reducible refine c2T ?_
    with_reducible refine w_snil ?_
    with_reducible refine sq_nx ?_
    with_reducible refine w_seq ?_
    with_reducible refine w_asg ?_
    refine w_merge (f := intsT) (xs := L) (y := A ++ B) rfl rfl rfl (fun _ _ z => by cases z) r7 a4 (by omega) ?_
    with_reducible refine w_gN ?_
    with_reducible refine sq_nx ?_
    with_reducible refine w_seq1 ?_
    with_reducible refine w_asg ?_
    have r9 : ∀ t5 : Store, (μ4 ++ t5)[v]? = some (.lst (L.map fun m => trD (triple lo hi m))) := fun t5 => by
      rw [List.getElem?_append_left (List.getElem?_eq_some_iff.mp r8).1]
      exact r8
    refine w_merge (f := fun m => trD (triple lo hi m)) (xs := L) (y := A ++ B) rfl rfl rfl (fun _ _ z => by cases z) (r9 _) a4 (by omega) ?_
    tm_at "w"
    rw [pe2]
    generalize hN : L.take pl.toNat ++ [A ++ B] ++ L.drop (pl.toNat + 2) = N
    have lN : N.length + (i + 1) = ps.length := by
      rw [← hN, List.length_append, List.length_append, List.length_take, List.length_drop]
      show min pl.toNat L.length + 1 + (L.length - (pl.toNat + 2)) + (i + 1) = ps.length
      omega
    have l4 : p < μ4.length := by rw [← hμ4, List.length_append, List.length_set]; omega
    refine ⟨N, s4, tail ++ ([Ob.lst ((L.take pl.toNat).map intsT), .lst [intsT (A ++ B)], .lst ((L.take pl.toNat ++ [A ++ B]).map intsT), .lst ((L.drop (pl.toNat + 2)).map intsT), .lst (N.map intsT)] ++
      [Ob.lst ((L.take pl.toNat).map fun m => trD (triple lo hi m)), .lst [trD (triple lo hi (A ++ B))], .lst ((L.take pl.toNat ++ [A ++ B]).map fun m => trD (triple lo hi m)), .lst ((L.drop (pl.toNat + 2)).map fun m => trD (triple lo hi m)), .lst (N.map fun m => trD (triple lo hi m))]),
      _, _, some (.int j), some (.int pl), some (intsT (A ++ B)), some (trD (triple lo hi (A ++ B))), g, lN, ?_, by omega, ?_, ?_, ?_, ?_, ?_, rfl⟩
    rotate_left 3
    · rw [← hμ4, List.append_assoc, List.append_assoc]
    · rw [List.append_assoc, List.getElem?_append_right (by omega)]
      simp
    · rw [List.getElem?_append_right (by simp)]
      simp
    · rw [← hN, sum_merge a1 (by rw [← pe]; exact a2), q2]
    · omega
    · rw [List.length_append]
      omega
  · subst q6 q9
    tm_at "w"
    refine retQ_cut rfl ?_ (wf_set (s := s') hw) (q s')
    rw [List.take_append_of_le_length (by rw [List.length_set]; exact Nat.le_refl _)]
    exact List.take_of_length_le (by rw [List.length_set]; exact Nat.le_refl _)
end
end K93

set_option Elab.async false
set_option linter.all false
set_option maxRecDepth 100000
set_option maxHeartbeats 0
namespace K93
open PySem PySem.Spec Mini

local macro_rules | `(tactic| tm_at "n") => `(tactic| first
  | with_reducible refine w_seq1 ?_
  | with_reducible refine w_seq ?_
  | with_reducible refine sq_rt ?_
  | with_reducible refine sq_ex ?_
  | with_reducible refine sq_ct ?_
  | with_reducible refine sq_bk ?_
  | ((with_reducible refine w_varQ ?_); first | refine vq_int ?_ | refine vq_tup ?_ | refine vq_loc ?_ | refine vq_bl ?_ | refine vq_rol ?_ | refine vq_str ?_ | refine vq_non ?_)
  | with_reducible refine w_K ?_
  | with_reducible refine c2T ?_
  | with_reducible refine c2F ?_
  | with_reducible refine c2N ?_
  | with_reducible refine blk ?_
  | with_reducible refine intk ?_
  | with_reducible refine w_asg ?_
  | with_reducible refine w_gN ?_
  | with_reducible refine w_sret ?_
  | with_reducible refine w_sif ?_
  | with_reducible refine w_tcmp ?_
  | with_reducible refine w_cmp ?_
  | with_reducible refine w_2 ?_
  | with_reducible refine w_1 ?_
  | with_reducible refine w_call ?_
  | with_reducible refine w_cons ?_
  | with_reducible refine w_nil ?_
  | with_reducible refine w_B ?_
  | with_reducible refine w_add ?_
  | with_reducible refine w_sub ?_
  | with_reducible refine w_neg ?_
  | ((with_reducible refine w_mul ?_ ?_); first | exact .inl (by decide) | exact .inr (.inl (by decide)))
  | ((with_reducible refine w_div ?_ ?_); exact ⟨by decide, by decide⟩)
  | ((with_reducible refine w_mod ?_ ?_); decide)
  | with_reducible refine w_pow30 ?_
  | with_reducible refine w_pow18 ?_
  | with_reducible refine w_eqI ?_
  | with_reducible refine w_neI ?_
  | with_reducible refine w_ltI ?_
  | with_reducible refine w_leI ?_
  | with_reducible refine w_gtI ?_
  | with_reducible refine w_geI ?_
  | with_reducible refine w_truB ?_
  | with_reducible refine w_tval ?_
  | with_reducible refine w_tnot ?_
  | with_reducible refine w_tand ?_
  | with_reducible refine w_tor ?_
  | with_reducible refine w_cif ?_
  | with_reducible refine w_cand ?_
  | with_reducible refine w_cor ?_
  | with_reducible refine w_cnot ?_
  | with_reducible refine w_chn ?_
  | with_reducible refine w_tchn ?_
  | with_reducible refine w_tup ?_
  | ((with_reducible refine lenK ?_ ?_); exact rfl)
  | with_reducible refine w_is1 ?_
  | ((with_reducible refine w_isQ ?_); refine oq ?_)
  | with_reducible refine w_is ?_
  | ((with_reducible refine w_isQs ?_); refine oq ?_)
  | with_reducible refine w_minI ?_
  | with_reducible refine w_maxI ?_
  | with_reducible refine w_absI ?_
  | with_reducible refine w_intI ?_
  | with_reducible refine w_lenT ?_
  | with_reducible refine w_lenR ?_
  | with_reducible refine w_sl ?_
  | with_reducible refine w_pno ?_
  | with_reducible refine w_psome ?_
  | with_reducible refine w_sexp ?_
  | with_reducible refine w_sretN ?_
  | with_reducible refine w_raise ?_
  | with_reducible refine w_snil ?_
  | with_reducible refine w_brk ?_
  | with_reducible refine w_cnt ?_
  | with_reducible refine w_for ?_
  | with_reducible refine w_iV ?_
  | with_reducible refine w_srcT ?_
  | with_reducible refine w_srcR ?_
  | with_reducible refine w_rng1' ?_
  | with_reducible refine w_BL ?_
  | with_reducible refine w_Lc ?_
  | with_reducible refine w_lcI ?_
  | ((with_reducible refine w_gT ?_ ?_); exact rfl)
  | with_reducible refine w_gsCons ?_
  | with_reducible refine w_gsNil ?_
  | with_reducible refine w_gI ?_
  | with_reducible refine w_M ?_
  | with_reducible refine w_lst ?_
  | with_reducible refine w_try ?_
  | with_reducible refine tk_nx ?_
  | with_reducible refine tk_ct ?_
  | with_reducible refine tk_bk ?_
  | with_reducible refine tk_rt ?_
  | with_reducible refine tk_ex ?_
  | with_reducible refine fk_nx ?_
  | with_reducible refine fk_rt ?_
  | with_reducible refine fk_ex ?_
  | with_reducible refine try_rt ?_
  | with_reducible refine try_nx ?_
  | with_reducible refine cat_rt ?_
  | with_reducible refine ek ?_
  | with_reducible refine retQ_same ?_
  | with_reducible refine retE_same ?_)
local macro_rules | `(tactic| tm_at "s") => `(tactic| simp only [Mini.start, List.map_cons, List.map_nil, List.length_cons, List.length_nil, List.replicate, List.cons_append, List.nil_append, Nat.reduceAdd, Nat.reduceSub, List.append_nil])
local macro_rules | `(tactic| tm_at "w") => `(tactic| repeat (first | with_reducible refine sq_nx ?_ | tm_at "n"))
local macro_rules | `(tactic| tm_at "v") => `(tactic| repeat tm_at "n")
local macro_rules | `(tactic| tm_at "c") => `(tactic| first | refine c2_of rfl ?_ | refine c2_ofF rfl ?_)

section
variable {Q : D → Store → Prop} {QB : Bool → Store → Prop} {E : Nat → List D → Store → Prop} {μ : Store} {k : Nat}
/-! ### refusals -/
def BadM (μ : Store) (d : D) : Prop := (∃ xs, d = .tup xs ∧ (∀ x ∈ xs, num x = true) ∧ xs.length < lineN ∧ (xs.all (withB (-1000000000000000000000000000000) 1000000000000000000000000000000) = false ∨ 64 < xs.length)) ∨ ∃ n xs, d = .loc n ∧ μ[n]? = some (.lst xs)
theorem BadM.ne {d : D} (h : BadM μ d) : ∀ c fs, d ≠ .exn c fs := fun c fs e => by
  rcases h with ⟨xs, h, _⟩ | ⟨n, xs, h, _⟩ <;> rw [h] at e <;> cases e
theorem num_ne {d : D} (h : num d = true) : ∀ c fs, d ≠ .exn c fs := fun c fs e => by rw [e] at h; cases h
theorem sp_check_movesB {d : D} (h : BadM μ d) (q : E 2 [] μ) : Wp (callN fns (k + 4) 3 [d] μ) Q E := by
  rcases h with ⟨xs, rfl, h1, h2, h3⟩ | ⟨n, xs, rfl, h1⟩
  · exact sp_check_movesX h1 h2 h3 q
  · exact sp_check_movesL h1 q
theorem sp_clampedX1 {a b x m : D} (ha : num a = true) (hb : num b = true) (hx : ∀ c fs, x ≠ .exn c fs) (hm : ∀ c fs, m ≠ .exn c fs) (h : withB (-1000000000000000000000000000000) 1000000000000000000000000000000 a = false ∨ ∃ lo, a = .int lo ∧ withB lo 1000000000000000000000000000000 b = false) (q : E 2 [] μ) : Wp (callN fns (k + 5) 7 [a, b, x, m] μ) Q E := by
  refine w_fn rfl rfl ?_
  unfold fclamped dclamped
  tm_at "s"
  with_reducible refine w_seq ?_
  with_reducible refine w_sexp ?_
  refine w_call (w_cons (w_var rfl (num_ne ha) (w_cons (w_var rfl (num_ne hb) (w_nil ?_)))))
  refine sp_check_boundsX ha hb h ?_
  tm_at "w"
  exact q
theorem sp_clampedX2 {lo hi : Int} {x m : D} (b : BB lo hi) (hx : num x = true) (h : withB lo hi x = false) (q : E 2 [] μ) : Wp (callN fns (k + 5) 7 [.int lo, .int hi, x, m] μ) Q E := by
  refine w_fn rfl rfl ?_
  unfold fclamped dclamped
  tm_at "s"
  tm_at "w"
  refine sp_check_bounds b.lo_ b.le b.hi_ ?_
  with_reducible refine sq_nx ?_
  with_reducible refine w_seq ?_
  with_reducible refine w_sexp ?_
  refine w_call (w_cons (w_var rfl (fun _ _ z => by cases z) (w_cons (w_var rfl (fun _ _ z => by cases z) (w_cons (w_var rfl (num_ne hx) (w_nil ?_)))))))
  refine sp_check_startX hx h ?_
  tm_at "w"
  exact q
theorem sp_clampedX3 {lo hi x : Int} {m : D} (b : BB lo hi) (hx : lo ≤ x ∧ x ≤ hi) (h : BadM μ m) (q : E 2 [] μ) : Wp (callN fns (k + 5) 7 [.int lo, .int hi, .int x, m] μ) Q E := by
  refine w_fn rfl rfl ?_
  unfold fclamped dclamped
  tm_at "s"
  tm_at "w"
  refine sp_check_bounds b.lo_ b.le b.hi_ ?_
  tm_at "w"
  refine sp_check_start hx.1 hx.2 ?_
  with_reducible refine sq_nx ?_
  with_reducible refine w_seq ?_
  with_reducible refine w_sexp ?_
  refine w_call (w_cons (w_var rfl h.ne (w_nil ?_)))
  refine sp_check_movesB h ?_
  tm_at "w"
  exact q
theorem sp_clampX1 {a b m : D} (ha : num a = true) (hb : num b = true) (h : withB (-1000000000000000000000000000000) 1000000000000000000000000000000 a = false ∨ ∃ lo, a = .int lo ∧ withB lo 1000000000000000000000000000000 b = false) (q : E 2 [] μ) : Wp (callN fns (k + 5) 9 [a, b, m] μ) Q E := by
  refine w_fn rfl rfl ?_
  unfold fclamp dclamp
  tm_at "s"
  with_reducible refine w_seq ?_
  with_reducible refine w_sexp ?_
  refine w_call (w_cons (w_var rfl (num_ne ha) (w_cons (w_var rfl (num_ne hb) (w_nil ?_)))))
  refine sp_check_boundsX ha hb h ?_
  tm_at "w"
  exact q
theorem sp_clampX3 {lo hi : Int} {m : D} (b : BB lo hi) (h : BadM μ m) (q : E 2 [] μ) : Wp (callN fns (k + 5) 9 [.int lo, .int hi, m] μ) Q E := by
  refine w_fn rfl rfl ?_
  unfold fclamp dclamp
  tm_at "s"
  tm_at "w"
  refine sp_check_bounds b.lo_ b.le b.hi_ ?_
  with_reducible refine sq_nx ?_
  with_reducible refine w_seq ?_
  with_reducible refine w_sexp ?_
  refine w_call (w_cons (w_var rfl h.ne (w_nil ?_)))
  refine sp_check_movesB h ?_
  tm_at "w"
  exact q
/-- the spoilers -/
def spO : List D := [.tup [.int 0, .int 4, .tup [.int (-1), .int 2, .int (-1)], .tup [.int 1, .int 1, .int (-1)], .int 1], .tup [.int 0, .int 4, .tup [], .tup [.int (-1), .int 1], .int 0], .tup [.int 0, .int 4, .tup [], .tup [.int 1, .int (-1)], .int 4]]
theorem sp_spoiler {w : Int} {d : D} (h0 : 0 ≤ w) (h2 : w ≤ 2) (e : spO[w.toNat]? = some d) (q : Q d μ) : Wp (callN fns (k + 3) 12 [.int w] μ) Q E := by
  refine w_fn rfl rfl ?_
  unfold fclamp_spoiler dclamp_spoiler
  tm_at "s"
  tm_at "w"
  refine sp_within rfl ?_
  rw [show withB 0 2 (.int w) = true by simp only [withB, Bool.and_eq_true, decide_eq_true_eq]; omega]
  tm_at "w"
  refine w_ixT (d := d) (by rw [atI_of h0 (by show w < 3; omega)]; exact e) ?_
  tm_at "w"
  exact q
theorem sp_spoilerX {a : D} (ha : num a = true) (h : withB 0 2 a = false) (q : E 2 [] μ) : Wp (callN fns (k + 3) 12 [a] μ) Q E := by
  refine w_fn rfl rfl ?_
  unfold fclamp_spoiler dclamp_spoiler
  tm_at "s"
  with_reducible refine w_seq ?_
  with_reducible refine w_sif ?_
  refine w_tnot (w_tval (w_call (w_cons (w_var rfl (num_ne ha) (w_cons (w_K (w_cons (w_K (w_nil ?_)))))))))
  refine sp_within ha ?_
  rw [h]
  tm_at "w"
  exact q
abbrev refD : D := .tup [.str "refused", .bl true]
theorem sp_word34 {a b x m : D} (ha : ∀ c fs, a ≠ .exn c fs) (hb : ∀ c fs, b ≠ .exn c fs) (hx : ∀ c fs, x ≠ .exn c fs) (hm : ∀ c fs, m ≠ .exn c fs) (h : ∀ (Q : D → Store → Prop) (E : Nat → List D → Store → Prop), E 2 [] μ → Wp (callN fns (k + 5) 7 [a, b, x, m] μ) Q E) (q : Q refD μ) : Wp (callN fns (k + 6) 34 [a, b, x, m] μ) Q E := by
  refine w_fn rfl rfl ?_
  unfold f_law_clamped_word d_law_clamped_word
  tm_at "s"
  with_reducible refine w_seq ?_
  with_reducible refine w_try ?_
  with_reducible refine w_seq1 ?_
  with_reducible refine w_asg ?_
  refine w_call (w_cons (w_var rfl ha (w_cons (w_var rfl hb (w_cons (w_var rfl hx (w_cons (w_var rfl hm (w_nil ?_)))))))))
  refine h _ _ ?_
  with_reducible refine ek ?_
  refine try_ex rfl ?_
  tm_at "w"
  refine w_isE1 (c := 2) (fs := []) rfl rfl ?_
  tm_at "w"
  refine w_isE1 (c := 2) (fs := []) rfl rfl ?_
  tm_at "w"
  refine w_isE1 (c := 2) (fs := []) rfl rfl ?_
  tm_at "w"
  exact q
theorem sp_word35 {a b m : D} (ha : ∀ c fs, a ≠ .exn c fs) (hb : ∀ c fs, b ≠ .exn c fs) (hm : ∀ c fs, m ≠ .exn c fs) (h : ∀ (Q : D → Store → Prop) (E : Nat → List D → Store → Prop), E 2 [] μ → Wp (callN fns (k + 5) 9 [a, b, m] μ) Q E) (q : Q refD μ) : Wp (callN fns (k + 6) 35 [a, b, m] μ) Q E := by
  refine w_fn rfl rfl ?_
  unfold f_law_clamp_word d_law_clamp_word
  tm_at "s"
  with_reducible refine w_seq ?_
  with_reducible refine w_try ?_
  with_reducible refine w_seq1 ?_
  with_reducible refine w_asg ?_
  refine w_call (w_cons (w_var rfl ha (w_cons (w_var rfl hb (w_cons (w_var rfl hm (w_nil ?_)))))))
  refine h _ _ ?_
  with_reducible refine ek ?_
  refine try_ex rfl ?_
  tm_at "w"
  refine w_isE1 (c := 2) (fs := []) rfl rfl ?_
  tm_at "w"
  refine w_isE1 (c := 2) (fs := []) rfl rfl ?_
  tm_at "w"
  refine w_isE1 (c := 2) (fs := []) rfl rfl ?_
  tm_at "w"
  exact q
theorem sp_word36 {a : D} (ha : num a = true) (h : withB 0 2 a = false) (q : Q refD μ) : Wp (callN fns (k + 6) 36 [a] μ) Q E := by
  refine w_fn rfl rfl ?_
  unfold f_law_spoiler_word d_law_spoiler_word
  tm_at "s"
  with_reducible refine w_seq ?_
  with_reducible refine w_try ?_
  with_reducible refine w_seq1 ?_
  with_reducible refine w_asg ?_
  refine w_call (w_cons (w_var rfl (num_ne ha) (w_nil ?_)))
  refine sp_spoilerX ha h ?_
  with_reducible refine ek ?_
  refine try_ex rfl ?_
  tm_at "w"
  refine w_isE1 (c := 2) (fs := []) rfl rfl ?_
  tm_at "w"
  refine w_isE1 (c := 2) (fs := []) rfl rfl ?_
  tm_at "w"
  refine w_isE1 (c := 2) (fs := []) rfl rfl ?_
  tm_at "w"
  exact q
/-! ### wrong things -/
theorem sp_bad_bounds {p : Nat} {o : Ob} {s : S3} {lo hi : Int} (b : BB lo hi) (h : μ[p]? = some o) (q : ∀ (x y : D) (s' : S3), num x = true → num y = true → (withB (-1000000000000000000000000000000) 1000000000000000000000000000000 x = false ∨ ∃ lo, x = .int lo ∧ withB lo 1000000000000000000000000000000 y = false) → Q (.tup [x, y]) (μ.set p (srcO s'))) : Wp (callN fns (k + 2) 31 [.loc p, .int lo, .int hi] (μ.set p (srcO s))) Q E := by
  refine w_fn rfl rfl ?_
  have q' : ∀ (x y : D) (s' : S3), num x = true → num y = true → (withB (-1000000000000000000000000000000) 1000000000000000000000000000000 x = false ∨ ∃ lo, x = .int lo ∧ withB lo 1000000000000000000000000000000 y = false) → retQ (μ.set p (srcO s)).length (.tup [x, y]) (μ.set p (srcO s')) Q := fun x y s' a b c => retQ_len (by rw [List.length_set, List.length_set]) (q x y s' a b c)
  generalize (μ.set p (srcO s)).length = nn at q' ⊢
  obtain ⟨b1, b2, b3⟩ := b
  have wn : ∀ {a b x : Int}, (x < a ∨ b < x) → withB a b (.int x) = false := fun {a b x} z => by
    simp only [withB, Bool.and_eq_false_iff, decide_eq_false_iff_not]
    omega
  unfold f_law_bad_bounds d_law_bad_bounds
  tm_at "s"
  tm_at "w"
  refine sp_drawS h (by decide) (by decide) fun way s1 a1 c1 => ?_
  tm_at "w"
  refine c2D (fun g => ?_) (fun g => ?_)
  · tm_at "w"
    exact q' _ _ _ rfl rfl (.inr ⟨_, rfl, wn (by omega)⟩)
  tm_at "w"
  refine c2D (fun g => ?_) (fun g => ?_)
  · tm_at "w"
    exact q' _ _ _ rfl rfl (.inr ⟨_, rfl, wn (by omega)⟩)
  tm_at "w"
  refine c2D (fun g => ?_) (fun g => ?_)
  · tm_at "w"
    exact q' _ _ _ rfl rfl (.inl (wn (by omega)))
  tm_at "w"
  refine c2D (fun g => ?_) (fun g => ?_)
  · tm_at "w"
    exact q' _ _ _ rfl rfl (.inl rfl)
  tm_at "w"
  refine c2D (fun g => ?_) (fun g => ?_)
  · tm_at "w"
    exact q' _ _ _ rfl rfl (.inr ⟨_, rfl, rfl⟩)
  tm_at "w"
  refine sp_drawS h (by decide) (by decide) fun d2 s2 a2 c2 => ?_
  tm_at "w"
  exact q' _ _ _ rfl rfl (.inr ⟨_, rfl, wn (by omega)⟩)
theorem sp_bad_start {p : Nat} {o : Ob} {s : S3} {lo hi : Int} (b : BB lo hi) (h : μ[p]? = some o) (q : ∀ (x : D) (s' : S3), num x = true → withB lo hi x = false → Q x (μ.set p (srcO s'))) : Wp (callN fns (k + 3) 32 [.loc p, .int lo, .int hi] (μ.set p (srcO s))) Q E := by
  refine w_fn rfl rfl ?_
  have q' : ∀ (x : D) (s' : S3), num x = true → withB lo hi x = false → retQ (μ.set p (srcO s)).length x (μ.set p (srcO s')) Q := fun x s' a b => retQ_len (by rw [List.length_set, List.length_set]) (q x s' a b)
  generalize (μ.set p (srcO s)).length = nn at q' ⊢
  obtain ⟨b1, b2, b3⟩ := b
  have wn : ∀ {x : Int}, (x < lo ∨ hi < x) → withB lo hi (.int x) = false := fun {x} z => by
    simp only [withB, Bool.and_eq_false_iff, decide_eq_false_iff_not]
    omega
  unfold f_law_bad_start d_law_bad_start
  tm_at "s"
  tm_at "w"
  refine sp_drawS h (by decide) (by decide) fun d1 s1 a1 c1 => ?_
  tm_at "w"
  refine sp_pickS h (Nat.le_of_ble_eq_true rfl) (Nat.le_of_ble_eq_true rfl) fun i x s2 hx => ?_
  tm_at "w"
  match i, hx with
  | 0, hx => cases hx; exact q' _ _ rfl (wn (by omega))
  | 1, hx => cases hx; exact q' _ _ rfl (wn (by omega))
  | 2, hx => cases hx; exact q' _ _ rfl (wn (by omega))
  | 3, hx => cases hx; exact q' _ _ rfl (wn (by omega))
  | 4, hx => cases hx; exact q' _ _ rfl rfl
  | n + 5, hx => cases hx
theorem sp_bad_moves {p : Nat} {o : Ob} {s : S3} {ms : List Int} (hm : MV ms) (h : μ[p]? = some o) (q : ∀ (d : D) (s' : S3) (tail : Store), (∀ s'' t2, BadM (μ.set p (srcO s'') ++ tail ++ t2) d) → Q d (μ.set p (srcO s') ++ tail)) : Wp (callN fns (k + 2) 33 [.loc p, intsT ms] (μ.set p (srcO s))) Q E := by
  refine w_fn rfl rfl ?_
  have hl := hm.len
  have qT : ∀ (xs : List D) (s' : S3), (∀ x ∈ xs, num x = true) → xs.length ≤ 200 → (xs.all (withB (-1000000000000000000000000000000) 1000000000000000000000000000000) = false ∨ 64 < xs.length) → retQ (μ.set p (srcO s)).length (.tup xs) (μ.set p (srcO s')) Q := fun xs s' h1 h2 h3 => retQ_len (by rw [List.length_set, List.length_set]) (by
    have := q (.tup xs) s' [] fun s'' t2 => .inl ⟨xs, rfl, h1, Nat.lt_of_le_of_lt h2 (by decide), h3⟩
    rw [List.append_nil] at this
    exact this)
  have qL : ∀ (s' : S3), retQ (μ.set p (srcO s)).length (.loc μ.length) (μ.set p (srcO s') ++ [.lst (ms.map .int)]) Q := fun s' => by
    refine ⟨fun z => ?_, fun _ => q _ s' _ fun s'' t2 => .inr ⟨μ.length, ms.map .int, rfl, ?_⟩⟩
    · rw [List.length_set] at z
      have : μ.length < μ.length := of_decide_eq_true z
      omega
    · rw [List.append_assoc, List.getElem?_append_right (by rw [List.length_set]; exact Nat.le_refl _), List.length_set]
      simp
  generalize (μ.set p (srcO s)).length = nn at qT qL ⊢
  have an : ∀ (a b : List Int) (x : D), num x = true → ∀ y ∈ a.map D.int ++ [x] ++ b.map D.int, num y = true := fun a b x hx y hy => by
    simp only [List.mem_append, List.mem_map, List.mem_cons, List.not_mem_nil, or_false] at hy
    rcases hy with (⟨_, _, rfl⟩ | rfl) | ⟨_, _, rfl⟩
    · rfl
    · exact hx
    · rfl
  have af : ∀ (a b : List Int) (x : D), withB (-1000000000000000000000000000000) 1000000000000000000000000000000 x = false → (a.map D.int ++ [x] ++ b.map D.int).all (withB (-1000000000000000000000000000000) 1000000000000000000000000000000) = false := fun a b x hx => by
    simp [List.all_append, hx]
  have wadd : ∀ {a b : List Int} {x : D} {Q : D → Store → Prop} {E : Nat → List D → Store → Prop} {μ : Store}, a.length ≤ 64 → b.length ≤ 64 → Q (.tup (a.map D.int ++ [x])) μ → Wp (addD (intsT a) (.tup [x]) μ) Q E := fun {a b x Q E μ} ha hb q => w_addT (by rw [List.length_append, List.length_map]; exact Nat.le_trans (Nat.add_le_add_right ha _) (Nat.le_of_ble_eq_true rfl)) q
  have wadd2 : ∀ {a b : List Int} {x : D} {Q : D → Store → Prop} {E : Nat → List D → Store → Prop} {μ : Store}, a.length ≤ 64 → b.length ≤ 64 → Q (.tup (a.map D.int ++ [x] ++ b.map D.int)) μ → Wp (addD (.tup (a.map D.int ++ [x])) (intsT b) μ) Q E := fun {a b x Q E μ} ha hb q => w_addT (by
    rw [List.length_append, List.length_append, List.length_map, List.length_map]
    show a.length + 1 + b.length ≤ lineN
    exact Nat.le_trans (show a.length + 1 + b.length ≤ 129 by omega) (Nat.le_of_ble_eq_true rfl)) q
  unfold f_law_bad_moves d_law_bad_moves
  tm_at "s"
  tm_at "w"
  refine sp_drawS h (by decide) (by decide) fun way s1 a1 c1 => ?_
  tm_at "w"
  rw [List.length_map]
  refine sp_drawS h (by omega) (by omega) fun pl s2 a2 c2 => ?_
  tm_at "w"
  have t1 : (ms.take pl.toNat).length ≤ 64 := by rw [List.length_take]; omega
  have t2 : (ms.drop pl.toNat).length ≤ 64 := by rw [List.length_drop]; omega
  have t3 : ∀ x : D, ((ms.take pl.toNat).map D.int ++ [x] ++ (ms.drop pl.toNat).map D.int).length ≤ 200 := fun x => by
    rw [List.length_append, List.length_append, List.length_map, List.length_map]
    show (ms.take pl.toNat).length + 1 + (ms.drop pl.toNat).length ≤ 200
    omega
  have wn : ∀ {x : Int}, (x < -1000000000000000000000000000000 ∨ 1000000000000000000000000000000 < x) → withB (-1000000000000000000000000000000) 1000000000000000000000000000000 (.int x) = false := fun {x} z => by
    simp only [withB, Bool.and_eq_false_iff, decide_eq_false_iff_not]
    omega
  refine c2D (fun g => ?_) (fun g => ?_)
  · tm_at "w"
    refine w_slTo a2 ?_
    tm_at "w"
    refine sp_drawS h (by decide) (by decide) fun d3 s3 a3 c3 => ?_
    tm_at "w"
    refine wadd t1 t2 ?_
    tm_at "w"
    refine w_slFrom a2 ?_
    refine wadd2 t1 t2 ?_
    tm_at "w"
    exact qT _ _ (an _ _ _ rfl) (t3 _) (.inl (af _ _ _ (wn (by omega))))
  tm_at "w"
  refine c2D (fun g => ?_) (fun g => ?_)
  · tm_at "w"
    refine w_slTo a2 ?_
    tm_at "w"
    refine wadd t1 t2 ?_
    tm_at "w"
    refine w_slFrom a2 ?_
    refine wadd2 t1 t2 ?_
    tm_at "w"
    exact qT _ _ (an _ _ _ rfl) (t3 _) (.inl (af _ _ _ (wn (by omega))))
  tm_at "w"
  refine c2D (fun g => ?_) (fun g => ?_)
  · tm_at "w"
    refine w_slTo a2 ?_
    tm_at "w"
    refine wadd t1 t2 ?_
    tm_at "w"
    refine w_slFrom a2 ?_
    refine wadd2 t1 t2 ?_
    tm_at "w"
    exact qT _ _ (an _ _ _ rfl) (t3 _) (.inl (af _ _ _ rfl))
  tm_at "w"
  refine c2D (fun g => ?_) (fun g => ?_)
  · tm_at "w"
    rw [List.length_map]
    refine ⟨⟨by omega, by omega⟩, ?_⟩
    refine w_lcP (fun _ => true) (fun _ => .int 0) (μ.set p (srcO s2)) (by rw [List.length_map, List.length_range]; exact Nat.lt_of_le_of_lt (show (65 - (ms.length : Int)).toNat ≤ 100 by omega) (by decide)) feeds_R (fun d hd => ?_) ?_
    · tm_at "w"
      refine w_ret ⟨rfl, c2T ?_⟩
      tm_at "w"
      exact ⟨rfl, rfl⟩
    rw [List.filter_eq_self.mpr (fun _ _ => rfl), List.map_map]
    have e0 : (List.range (65 - (ms.length : Int)).toNat).map ((fun _ : D => D.int 0) ∘ fun (k : Nat) => D.int k) = ((List.range (65 - (ms.length : Int)).toNat).map fun _ => (0 : Int)).map D.int := by
      rw [List.map_map]
      rfl
    rw [e0]
    have l0 : ((List.range (65 - (ms.length : Int)).toNat).map fun _ => (0 : Int)).length = 65 - ms.length := by rw [List.length_map, List.length_range]; omega
    generalize ((List.range (65 - (ms.length : Int)).toNat).map fun _ => (0 : Int)) = zs at l0 ⊢
    refine w_newT (by rw [List.length_map]; exact Nat.le_trans (show zs.length ≤ 100 by omega) (by decide)) ?_
    refine w_addM (by omega) (by omega) ?_
    tm_at "w"
    refine qT _ _ (fun x hx => ?_) (by rw [List.length_map, List.length_append]; omega) (.inr (by rw [List.length_map, List.length_append]; omega))
    obtain ⟨m, _, rfl⟩ := List.mem_map.mp hx
    rfl
  · tm_at "w"
    show Wp (newL (ms.map D.int) (μ.set p (srcO s2))) _ _
    unfold newL
    rw [if_pos (by rw [List.length_map]; exact Nat.le_trans hl (by decide))]
    show fnK nn Q E (.rt (.loc (μ.set p (srcO s2)).length)) (μ.set p (srcO s2) ++ _)
    rw [List.length_set]
    tm_at "w"
    exact qL s2
end
end K93

set_option Elab.async false
set_option linter.all false
set_option maxRecDepth 100000
set_option maxHeartbeats 0
namespace K93
open PySem PySem.Spec Mini

local macro_rules | `(tactic| tm_at "n") => `(tactic| first
  | with_reducible refine w_seq1 ?_
  | with_reducible refine w_seq ?_
  | with_reducible refine sq_rt ?_
  | with_reducible refine sq_ex ?_
  | with_reducible refine sq_ct ?_
  | with_reducible refine sq_bk ?_
  | ((with_reducible refine w_varQ ?_); first | refine vq_int ?_ | refine vq_tup ?_ | refine vq_loc ?_ | refine vq_bl ?_ | refine vq_rol ?_ | refine vq_str ?_ | refine vq_non ?_)
  | with_reducible refine w_K ?_
  | with_reducible refine c2T ?_
  | with_reducible refine c2F ?_
  | with_reducible refine c2N ?_
  | with_reducible refine blk ?_
  | with_reducible refine intk ?_
  | with_reducible refine w_asg ?_
  | with_reducible refine w_gN ?_
  | with_reducible refine w_sret ?_
  | with_reducible refine w_sif ?_
  | with_reducible refine w_tcmp ?_
  | with_reducible refine w_cmp ?_
  | with_reducible refine w_2 ?_
  | with_reducible refine w_1 ?_
  | with_reducible refine w_call ?_
  | with_reducible refine w_cons ?_
  | with_reducible refine w_nil ?_
  | with_reducible refine w_B ?_
  | with_reducible refine w_add ?_
  | with_reducible refine w_sub ?_
  | with_reducible refine w_neg ?_
  | ((with_reducible refine w_mul ?_ ?_); first | exact .inl (by decide) | exact .inr (.inl (by decide)))
  | ((with_reducible refine w_div ?_ ?_); exact ⟨by decide, by decide⟩)
  | ((with_reducible refine w_mod ?_ ?_); decide)
  | with_reducible refine w_pow30 ?_
  | with_reducible refine w_pow18 ?_
  | with_reducible refine w_eqI ?_
  | with_reducible refine w_neI ?_
  | with_reducible refine w_ltI ?_
  | with_reducible refine w_leI ?_
  | with_reducible refine w_gtI ?_
  | with_reducible refine w_geI ?_
  | with_reducible refine w_truB ?_
  | with_reducible refine w_tval ?_
  | with_reducible refine w_tnot ?_
  | with_reducible refine w_tand ?_
  | with_reducible refine w_tor ?_
  | with_reducible refine w_cif ?_
  | with_reducible refine w_cand ?_
  | with_reducible refine w_cor ?_
  | with_reducible refine w_cnot ?_
  | with_reducible refine w_chn ?_
  | with_reducible refine w_tchn ?_
  | with_reducible refine w_tup ?_
  | ((with_reducible refine lenK ?_ ?_); exact rfl)
  | with_reducible refine w_is1 ?_
  | ((with_reducible refine w_isQ ?_); refine oq ?_)
  | with_reducible refine w_is ?_
  | ((with_reducible refine w_isQs ?_); refine oq ?_)
  | with_reducible refine w_minI ?_
  | with_reducible refine w_maxI ?_
  | with_reducible refine w_absI ?_
  | with_reducible refine w_intI ?_
  | with_reducible refine w_lenT ?_
  | with_reducible refine w_lenR ?_
  | with_reducible refine w_sl ?_
  | with_reducible refine w_pno ?_
  | with_reducible refine w_psome ?_
  | with_reducible refine w_sexp ?_
  | with_reducible refine w_sretN ?_
  | with_reducible refine w_raise ?_
  | with_reducible refine w_snil ?_
  | with_reducible refine w_brk ?_
  | with_reducible refine w_cnt ?_
  | with_reducible refine w_for ?_
  | with_reducible refine w_iV ?_
  | with_reducible refine w_srcT ?_
  | with_reducible refine w_srcR ?_
  | with_reducible refine w_rng1' ?_
  | with_reducible refine w_BL ?_
  | with_reducible refine w_Lc ?_
  | with_reducible refine w_lcI ?_
  | ((with_reducible refine w_gT ?_ ?_); exact rfl)
  | with_reducible refine w_gsCons ?_
  | with_reducible refine w_gsNil ?_
  | with_reducible refine w_gI ?_
  | with_reducible refine w_M ?_
  | with_reducible refine w_lst ?_
  | with_reducible refine w_try ?_
  | with_reducible refine tk_nx ?_
  | with_reducible refine tk_ct ?_
  | with_reducible refine tk_bk ?_
  | with_reducible refine tk_rt ?_
  | with_reducible refine tk_ex ?_
  | with_reducible refine fk_nx ?_
  | with_reducible refine fk_rt ?_
  | with_reducible refine fk_ex ?_
  | with_reducible refine try_rt ?_
  | with_reducible refine try_nx ?_
  | with_reducible refine cat_rt ?_
  | with_reducible refine ek ?_
  | with_reducible refine retQ_same ?_
  | with_reducible refine retE_same ?_)
local macro_rules | `(tactic| tm_at "s") => `(tactic| simp only [Mini.start, List.map_cons, List.map_nil, List.length_cons, List.length_nil, List.replicate, List.cons_append, List.nil_append, Nat.reduceAdd, Nat.reduceSub, List.append_nil])
local macro_rules | `(tactic| tm_at "w") => `(tactic| repeat (first | with_reducible refine sq_nx ?_ | tm_at "n"))
local macro_rules | `(tactic| tm_at "v") => `(tactic| repeat tm_at "n")
local macro_rules | `(tactic| tm_at "c") => `(tactic| first | refine c2_of rfl ?_ | refine c2_ofF rfl ?_)

section
variable {Q : D → Store → Prop} {QB : Bool → Store → Prop} {E : Nat → List D → Store → Prop} {μ : Store} {k : Nat}
theorem sp_are_moves {ms : List Int} (hm : MV ms) (q : Q (.bl true) μ) : Wp (callN fns (k + 2) 29 [intsT ms] μ) Q E := by
  refine w_fn rfl rfl ?_
  have hl := hm.len
  unfold f_law_are_moves d_law_are_moves
  tm_at "s"
  tm_at "w"
  rw [List.length_map]
  refine c2D (fun g => ?_) (fun g => ?_)
  · omega
  tm_at "w"
  refine w_lcP (fun _ => true) (fun _ => .bl true) μ (by rw [List.length_map]; exact Nat.lt_of_le_of_lt hl (by decide)) feeds_of (fun d hd => ?_) ?_
  · obtain ⟨m, hmm, rfl⟩ := List.mem_map.mp hd
    have hb := hm.big m hmm
    tm_at "w"
    refine w_ret ⟨rfl, c2T ?_⟩
    tm_at "w"
    refine sp_lis_integer rfl ?_
    refine blk (c2_of rfl ?_)
    tm_at "w"
    refine c2D (fun g => ?_) (fun g => ?_)
    · tm_at "w"
      exact ⟨by rw [decide_eq_true hb.2], rfl⟩
    · omega
  · rw [List.filter_eq_self.mpr (fun _ _ => rfl), List.map_map]
    have e : ms.map ((fun _ : D => D.bl true) ∘ D.int) = (ms.map fun _ => true).map D.bl := by
      rw [List.map_map]
      rfl
    rw [e]
    refine w_allI ?_
    have e2 : (ms.map fun _ => true).all id = true := by simp
    rw [e2]
    tm_at "w"
    exact q
def at3 (c : Tr) : Int → Int
  | 0 => c.1
  | 1 => c.2.1
  | _ => c.2.2
theorem w_ix3 {c : Tr} {i : Int} (h : i = 0 ∨ i = 1 ∨ i = 2) (q : Q (.int (at3 c i)) μ) : Wp (ixD (trD c) (.int i) μ) Q E := by
  rcases h with rfl | rfl | rfl
  · exact w_ixT rfl q
  · exact w_ixT rfl q
  · exact w_ixT rfl q
theorem w_neL1 {n m : Nat} {w : Int} (h1 : μ[n]? = some (.lst [.int w])) (h2 : μ[m]? = some (.lst [.int w])) (q : QB false μ) : Wp (cmpB .ne (.loc n) (.loc m) μ) QB E := by
  have e : ∀ n, μ[n]? = some (.lst [.int w]) → pyOf μ (.loc n) = some (.list [.int w]) := fun n h => by
    unfold pyOf toPy lPy
    rw [h]
    rfl
  have h : PyData.eqv (.list [.int w]) (.list [.int w]) = true := by
    show (w == w && true) = true
    simp
  show Wp (bnd (eqB (.loc n) (.loc m)) (fun c => ret (!c)) μ) QB E
  refine w_bnd ?_
  unfold eqB
  rw [e n h1, e m h2]
  show Wp (if _ then _ else _) _ _
  rw [if_pos ⟨rfl, rfl⟩, h]
  exact q
theorem sp_spoilsG {w lo hi st : Int} {one two : List Int} (hw : 0 ≤ w ∧ w ≤ 2) (e : spO[w.toNat]? = some (.tup [.int lo, .int hi, intsT one, intsT two, .int st])) (b : BB lo hi) (hs : lo ≤ st ∧ st ≤ hi) (m1 : MV one) (m2 : MV two)
    (hd : ([0, 1, 2].filter fun i => decide (at3 (triple lo hi one) i ≠ at3 (triple lo hi two) i)) = [w]) (hh : held lo hi st one ≠ held lo hi st two) (wf : μ.all (Ob.lt μ.length) = true) (q : Q (.bl true) μ) : Wp (callN fns (k + 4) 30 [.int w] μ) Q E := by
  refine w_fn rfl rfl ?_
  obtain ⟨b1, b2, b3⟩ := b
  unfold f_law_spoils d_law_spoils
  tm_at "s"
  tm_at "w"
  refine sp_spoiler hw.1 hw.2 e ?_
  tm_at "w"
  tm_at "c"
  tm_at "w"
  refine sp_lis_integer rfl ?_
  tm_at "w"
  refine c2_of rfl ?_
  tm_at "w"
  refine sp_lis_integer rfl ?_
  tm_at "w"
  refine c2_of rfl ?_
  tm_at "w"
  refine sp_lis_integer rfl ?_
  tm_at "w"
  refine c2_of rfl ?_
  tm_at "w"
  refine c2_ofF (decide_eq_false (by omega)) ?_
  tm_at "w"
  refine c2_ofF (decide_eq_false (by omega)) ?_
  tm_at "w"
  refine c2_ofF (decide_eq_false (by omega)) ?_
  tm_at "w"
  refine c2_ofF (decide_eq_false (by omega)) ?_
  tm_at "w"
  refine sp_are_moves m1 ?_
  tm_at "w"
  refine sp_are_moves m2 ?_
  tm_at "w"
  refine sp_triple b2 (Nat.lt_of_le_of_lt m1.len (by decide)) ?_
  tm_at "w"
  refine sp_triple b2 (Nat.lt_of_le_of_lt m2.len (by decide)) ?_
  tm_at "w"
  refine ⟨⟨by decide, by decide⟩, ?_⟩
  refine w_lcP (ds := [0, 1, 2].map D.int) (fun d => match d with
    | .int i => decide (at3 (triple lo hi one) i ≠ at3 (triple lo hi two) i)
    | _ => false) (fun d => d) μ (Nat.le_of_ble_eq_true rfl) feeds_R (fun d hd => ?_) ?_
  · obtain ⟨i, hi2, rfl⟩ := List.mem_map.mp hd
    have hi3 : i = 0 ∨ i = 1 ∨ i = 2 := by
      simp only [List.mem_cons, List.not_mem_nil, or_false] at hi2
      exact hi2
    tm_at "w"
    refine w_ix3 hi3 ?_
    tm_at "w"
    refine w_ix3 hi3 ?_
    tm_at "w"
    refine ⟨by
      show (!decide (at3 (triple lo hi one) i = at3 (triple lo hi two) i)) = decide (at3 (triple lo hi one) i ≠ at3 (triple lo hi two) i)
      simp, ?_⟩
    refine c2B (fun _ => ?_) fun _ => rfl
    tm_at "w"
    exact ⟨rfl, rfl⟩
  · have e3 : (([0, 1, 2].map D.int).filter fun d => match d with
      | .int i => decide (at3 (triple lo hi one) i ≠ at3 (triple lo hi two) i)
      | _ => false) = ([0, 1, 2].filter fun i => decide (at3 (triple lo hi one) i ≠ at3 (triple lo hi two) i)).map D.int := by
      rw [List.filter_map]
      rfl
    rw [e3, hd, List.map_id']
    tm_at "w"
    refine w_neL1 (w := w) (by simp) (by simp) ?_
    tm_at "w"
    refine sp_held b2 (Nat.lt_of_le_of_lt m1.len (by decide)) ?_
    tm_at "w"
    refine sp_held b2 (Nat.lt_of_le_of_lt m2.len (by decide)) ?_
    tm_at "w"
    rw [decide_eq_false hh]
    refine retQ_cut rfl ?_ wf q
    rw [List.append_assoc, List.take_append_of_le_length (Nat.le_refl _), List.take_length]
theorem mv_small {ms : List Int} (h : ms.length ≤ 64 ∧ ms.all (fun m => decide (-1000000000000000000000000000000 ≤ m ∧ m ≤ 1000000000000000000000000000000)) = true) : MV ms := ⟨h.1, fun m hm => by simpa using List.all_eq_true.mp h.2 m hm⟩
theorem sp_spoils {w : Int} (hw : w = 0 ∨ w = 1 ∨ w = 2) (wf : μ.all (Ob.lt μ.length) = true) (q : Q (.bl true) μ) : Wp (callN fns (k + 4) 30 [.int w] μ) Q E := by
  rcases hw with rfl | rfl | rfl
  · exact sp_spoilsG (lo := 0) (hi := 4) (st := 1) (one := [-1, 2, -1]) (two := [1, 1, -1]) ⟨by decide, by decide⟩ rfl ⟨by decide, by decide, by decide⟩ ⟨by decide, by decide⟩ (mv_small (by decide)) (mv_small (by decide)) (by decide) (by decide) wf q
  · exact sp_spoilsG (lo := 0) (hi := 4) (st := 0) (one := []) (two := [-1, 1]) ⟨by decide, by decide⟩ rfl ⟨by decide, by decide, by decide⟩ ⟨by decide, by decide⟩ (mv_small (by decide)) (mv_small (by decide)) (by decide) (by decide) wf q
  · exact sp_spoilsG (lo := 0) (hi := 4) (st := 4) (one := []) (two := [1, -1]) ⟨by decide, by decide⟩ rfl ⟨by decide, by decide, by decide⟩ ⟨by decide, by decide⟩ (mv_small (by decide)) (mv_small (by decide)) (by decide) (by decide) wf q
theorem w_eqRef (q : QB true μ) : Wp (cmpB .eq refD refD μ) QB E := by
  have h : PyData.eqv (.tuple [.str "refused", .bool true]) (.tuple [.str "refused", .bool true]) = true := by decide +kernel
  have s : SeqAt.shaped (.tuple [.str "refused", .bool true]) = true := by decide +kernel
  show Wp (if SeqAt.shaped (.tuple [.str "refused", .bool true]) = true ∧ SeqAt.shaped (.tuple [.str "refused", .bool true]) = true then Res.ok (PyData.eqv (.tuple [.str "refused", .bool true]) (.tuple [.str "refused", .bool true])) μ else .stuck) QB E
  rw [if_pos ⟨s, s⟩, h]
  exact q
theorem sp_refusals {p : Nat} {o : Ob} {s : S3} {lo hi : Int} {ms : List Int} (b : BB lo hi) (hm : MV ms) (h : μ[p]? = some o) (q : ∀ μ', Q (.bl true) μ') : Wp (callN fns (k + 7) 37 [.loc p, .int lo, .int hi, intsT ms] (μ.set p (srcO s))) Q E := by
  refine w_fn rfl rfl ?_
  have q' : ∀ n μ', retQ n (.bl true) μ' Q := fun n μ' => ⟨fun _ _ => q _, fun _ => q _⟩
  have hplt : p < μ.length := (List.getElem?_eq_some_iff.mp h).1
  unfold f_law_refusals d_law_refusals
  tm_at "s"
  tm_at "w"
  refine sp_bad_bounds b h fun x y s1 hx hy hxy => ?_
  tm_at "w"
  refine sp_bad_start b h fun z s2 hz1 hz2 => ?_
  tm_at "w"
  refine sp_bad_moves hm h fun d s3 tail hd => ?_
  have sP : ∀ (s s' : S3), (μ.set p (srcO s) ++ tail).set p (srcO s') = μ.set p (srcO s') ++ tail := fun s s' => by
    rw [List.set_append_left _ _ (by rw [List.length_set]; exact hplt), List.set_set]
  have sG : ∀ (s : S3), (μ.set p (srcO s) ++ tail)[p]? = some (srcO s) := fun s => by
    rw [List.getElem?_append_left (by rw [List.length_set]; exact hplt)]
    exact set_get h
  tm_at "w"
  refine sp_draw (sG _) (by decide) (by decide) fun d4 s4 a4 c4 => ?_
  rw [sP]
  tm_at "w"
  refine sp_draw (sG _) (by decide) (by decide) fun d5 s5 a5 c5 => ?_
  rw [sP]
  tm_at "w"
  rw [← set_same (sG s5)]
  refine sp_pickS (sG s5) (Nat.le_of_ble_eq_true rfl) (Nat.le_of_ble_eq_true rfl) fun i w s6 hw => ?_
  rw [sP]
  have wn : ∀ {x : Int}, (x < 0 ∨ 2 < x) → withB 0 2 (.int x) = false := fun {x} z => by
    simp only [withB, Bool.and_eq_false_iff, decide_eq_false_iff_not]
    omega
  have hw2 : num w = true ∧ withB 0 2 w = false := by
    match i, hw with
    | 0, hw => cases hw; exact ⟨rfl, wn (by omega)⟩
    | 1, hw => cases hw; exact ⟨rfl, wn (by omega)⟩
    | 2, hw => cases hw; exact ⟨rfl, rfl⟩
    | 3, hw => cases hw; exact ⟨rfl, rfl⟩
    | 4, hw => cases hw; exact ⟨rfl, wn (by omega)⟩
    | 5, hw => cases hw; exact ⟨rfl, wn (by omega)⟩
    | n + 6, hw => cases hw
  have hd6 : BadM (μ.set p (srcO s6) ++ tail) d := by
    have := hd s6 []
    rw [List.append_nil] at this
    exact this
  generalize μ.set p (srcO s6) ++ tail = μ6 at hd6 ⊢
  have nI : ∀ (n : Int) c fs, D.int n ≠ .exn c fs := fun n c fs z => by cases z
  have nT : ∀ (xs : List D) c fs, D.tup xs ≠ .exn c fs := fun n c fs z => by cases z
  tm_at "w"
  refine w_ixT (d := x) rfl ?_
  tm_at "w"
  refine w_ixT (d := y) rfl ?_
  tm_at "w"
  refine sp_word34 (num_ne hx) (num_ne hy) (nI _) (nT _) (fun Q E q => sp_clampedX1 hx hy (nI _) (nT _) hxy q) ?_
  with_reducible refine w_cons ?_
  with_reducible refine w_call ?_
  refine w_cons (w_var rfl (nI _) (w_cons (w_var rfl (nI _) (w_cons (w_var rfl (num_ne hz1) (w_cons (w_var rfl (nT _) (w_nil ?_))))))))
  refine sp_word34 (nI _) (nI _) (num_ne hz1) (nT _) (fun Q E q => sp_clampedX2 b hz1 hz2 q) ?_
  with_reducible refine w_cons ?_
  with_reducible refine w_call ?_
  refine w_cons (w_var rfl (nI _) (w_cons (w_var rfl (nI _) (w_cons (w_var rfl (nI _) (w_cons (w_var rfl hd6.ne (w_nil ?_))))))))
  refine sp_word34 (nI _) (nI _) (nI _) hd6.ne (fun Q E q => sp_clampedX3 b ⟨b.le, Int.le_refl _⟩ hd6 q) ?_
  tm_at "w"
  refine w_ixT (d := x) rfl ?_
  tm_at "w"
  refine w_ixT (d := y) rfl ?_
  tm_at "w"
  refine sp_word35 (num_ne hx) (num_ne hy) (nT _) (fun Q E q => sp_clampX1 hx hy hxy q) ?_
  with_reducible refine w_cons ?_
  with_reducible refine w_call ?_
  refine w_cons (w_var rfl (nI _) (w_cons (w_var rfl (nI _) (w_cons (w_var rfl hd6.ne (w_nil ?_))))))
  refine sp_word35 (nI _) (nI _) hd6.ne (fun Q E q => sp_clampX3 b hd6 q) ?_
  with_reducible refine w_cons ?_
  with_reducible refine w_call ?_
  refine w_cons (w_var rfl (num_ne hw2.1) (w_nil ?_))
  refine sp_word36 hw2.1 hw2.2 ?_
  tm_at "w"
  refine w_srcL (xs := [refD, refD, refD, refD, refD, refD]) (by simp) ?_
  refine w_lcP (ds := [refD, refD, refD, refD, refD, refD]) (fun _ => true) (fun _ => .bl true) _ (Nat.le_of_ble_eq_true rfl) (feeds_L (by simp)) (fun d hd => ?_) ?_
  · have : d = refD := by
      simp only [List.mem_cons, List.not_mem_nil, or_false, or_self] at hd
      exact hd
    subst this
    tm_at "w"
    refine w_ret ⟨rfl, c2T ?_⟩
    tm_at "w"
    refine w_eqRef ?_
    exact ⟨rfl, rfl⟩
  · refine w_allI (bs := [true, true, true, true, true, true]) ?_
    tm_at "w"
    exact q' _ _
end
end K93

set_option Elab.async false
set_option linter.all false
set_option maxRecDepth 100000
set_option maxHeartbeats 0
namespace K93
open PySem PySem.Spec Mini

local macro_rules | `(tactic| tm_at "n") => `(tactic| first
  | with_reducible refine w_seq1 ?_
  | with_reducible refine w_seq ?_
  | with_reducible refine sq_rt ?_
  | with_reducible refine sq_ex ?_
  | with_reducible refine sq_ct ?_
  | with_reducible refine sq_bk ?_
  | ((with_reducible refine w_varQ ?_); first | refine vq_int ?_ | refine vq_tup ?_ | refine vq_loc ?_ | refine vq_bl ?_ | refine vq_rol ?_ | refine vq_str ?_ | refine vq_non ?_)
  | with_reducible refine w_K ?_
  | with_reducible refine c2T ?_
  | with_reducible refine c2F ?_
  | with_reducible refine c2N ?_
  | with_reducible refine blk ?_
  | with_reducible refine intk ?_
  | with_reducible refine w_asg ?_
  | with_reducible refine w_gN ?_
  | with_reducible refine w_sret ?_
  | with_reducible refine w_sif ?_
  | with_reducible refine w_tcmp ?_
  | with_reducible refine w_cmp ?_
  | with_reducible refine w_2 ?_
  | with_reducible refine w_1 ?_
  | with_reducible refine w_call ?_
  | with_reducible refine w_cons ?_
  | with_reducible refine w_nil ?_
  | with_reducible refine w_B ?_
  | with_reducible refine w_add ?_
  | with_reducible refine w_sub ?_
  | with_reducible refine w_neg ?_
  | ((with_reducible refine w_mul ?_ ?_); first | exact .inl (by decide) | exact .inr (.inl (by decide)))
  | ((with_reducible refine w_div ?_ ?_); exact ⟨by decide, by decide⟩)
  | ((with_reducible refine w_mod ?_ ?_); decide)
  | with_reducible refine w_pow30 ?_
  | with_reducible refine w_pow18 ?_
  | with_reducible refine w_eqI ?_
  | with_reducible refine w_neI ?_
  | with_reducible refine w_ltI ?_
  | with_reducible refine w_leI ?_
  | with_reducible refine w_gtI ?_
  | with_reducible refine w_geI ?_
  | with_reducible refine w_truB ?_
  | with_reducible refine w_tval ?_
  | with_reducible refine w_tnot ?_
  | with_reducible refine w_tand ?_
  | with_reducible refine w_tor ?_
  | with_reducible refine w_cif ?_
  | with_reducible refine w_cand ?_
  | with_reducible refine w_cor ?_
  | with_reducible refine w_cnot ?_
  | with_reducible refine w_chn ?_
  | with_reducible refine w_tchn ?_
  | with_reducible refine w_tup ?_
  | ((with_reducible refine lenK ?_ ?_); exact rfl)
  | with_reducible refine w_is1 ?_
  | ((with_reducible refine w_isQ ?_); refine oq ?_)
  | with_reducible refine w_is ?_
  | ((with_reducible refine w_isQs ?_); refine oq ?_)
  | with_reducible refine w_minI ?_
  | with_reducible refine w_maxI ?_
  | with_reducible refine w_absI ?_
  | with_reducible refine w_intI ?_
  | with_reducible refine w_lenT ?_
  | with_reducible refine w_lenR ?_
  | with_reducible refine w_sl ?_
  | with_reducible refine w_pno ?_
  | with_reducible refine w_psome ?_
  | with_reducible refine w_sexp ?_
  | with_reducible refine w_sretN ?_
  | with_reducible refine w_raise ?_
  | with_reducible refine w_snil ?_
  | with_reducible refine w_brk ?_
  | with_reducible refine w_cnt ?_
  | with_reducible refine w_for ?_
  | with_reducible refine w_iV ?_
  | with_reducible refine w_srcT ?_
  | with_reducible refine w_srcR ?_
  | with_reducible refine w_rng1' ?_
  | with_reducible refine w_BL ?_
  | with_reducible refine w_Lc ?_
  | with_reducible refine w_lcI ?_
  | ((with_reducible refine w_gT ?_ ?_); exact rfl)
  | with_reducible refine w_gsCons ?_
  | with_reducible refine w_gsNil ?_
  | with_reducible refine w_gI ?_
  | with_reducible refine w_M ?_
  | with_reducible refine w_lst ?_
  | with_reducible refine w_try ?_
  | with_reducible refine tk_nx ?_
  | with_reducible refine tk_ct ?_
  | with_reducible refine tk_bk ?_
  | with_reducible refine tk_rt ?_
  | with_reducible refine tk_ex ?_
  | with_reducible refine fk_nx ?_
  | with_reducible refine fk_rt ?_
  | with_reducible refine fk_ex ?_
  | with_reducible refine try_rt ?_
  | with_reducible refine try_nx ?_
  | with_reducible refine cat_rt ?_
  | with_reducible refine ek ?_
  | with_reducible refine retQ_same ?_
  | with_reducible refine retE_same ?_)
local macro_rules | `(tactic| tm_at "s") => `(tactic| simp only [Mini.start, List.map_cons, List.map_nil, List.length_cons, List.length_nil, List.replicate, List.cons_append, List.nil_append, Nat.reduceAdd, Nat.reduceSub, List.append_nil])
local macro_rules | `(tactic| tm_at "w") => `(tactic| repeat (first | with_reducible refine sq_nx ?_ | tm_at "n"))
local macro_rules | `(tactic| tm_at "v") => `(tactic| repeat tm_at "n")
local macro_rules | `(tactic| tm_at "c") => `(tactic| first | refine c2_of rfl ?_ | refine c2_ofF rfl ?_)

theorem w_seqJ {s u : DenS} {σ : Mini.Env} {μ : Store} {Q : Fl → Store → Prop} (P : Mini.Env → Store → Prop) (h : Wp (s σ μ) (fun f μ' => ∃ σ', f = .nx σ' ∧ P σ' μ') NoE) (k : ∀ σ' μ', P σ' μ' → Wp (u σ' μ') Q NoE) : Wp (sSeq s u σ μ) Q NoE :=
  w_seq (h.mono (fun f μ' ⟨σ', e, p⟩ => by subst e; exact k σ' μ' p) fun _ _ _ e => e)
def Flat (μ : Store) : Prop := ∀ o ∈ μ, ∀ n, Ob.lt n o = true
theorem Flat.nil : Flat [] := fun _ h => by cases h
theorem Flat.app {μ t : Store} (h : Flat μ) (g : Flat t) : Flat (μ ++ t) := fun o ho n => by
  rcases List.mem_append.mp ho with ho | ho
  · exact h o ho n
  · exact g o ho n
theorem Flat.set {μ : Store} {p : Nat} {s : S3} (h : Flat μ) : Flat (μ.set p (srcO s)) := fun o ho n => by
  rcases List.mem_or_eq_of_mem_set ho with ho | rfl
  · exact h o ho n
  · simp [Ob.lt, lts, D.lt]
theorem Flat.cons {o : Ob} {t : Store} (h : ∀ n, Ob.lt n o = true) (g : Flat t) : Flat (o :: t) := fun x hx n => by
  rcases List.mem_cons.mp hx with rfl | hx
  · exact h n
  · exact g x hx n
theorem fl_ints (ms : List Int) (n : Nat) : Ob.lt n (.lst (ms.map .int)) = true := lts_ints n ms
theorem fl_src (s : S3) (n : Nat) : Ob.lt n (srcO s) = true := by simp [Ob.lt, lts, D.lt]
theorem fl_pcs (n : Nat) : ∀ ps : List (List Int), lts n (ps.map intsT) = true
  | [] => rfl
  | m :: ps => by
    show ((intsT m).lt n && lts n (ps.map intsT)) = true
    rw [fl_pcs n ps, Bool.and_true]
    exact lts_ints n m
theorem fl_tr2 (c d : Tr) (n : Nat) : Ob.lt n (.lst [trD c, trD d]) = true := by simp [Ob.lt, lts, D.lt]
theorem Flat.wf {μ : Store} (h : Flat μ) : μ.all (Ob.lt μ.length) = true := List.all_eq_true.mpr fun o ho => h o ho _
theorem mv_snoc {ms : List Int} {e : Int} (h : MV ms) (he : Big e) : MV (ms.take (63 : Int).toNat ++ [e]) := by
  refine ⟨?_, fun m hm => ?_⟩
  · rw [List.length_append, List.length_take]
    show min 63 ms.length + 1 ≤ 64
    omega
  · rcases List.mem_append.mp hm with hm | hm
    · exact h.big m (List.mem_of_mem_take hm)
    · rw [List.mem_singleton.mp hm]; exact he
theorem mv_pieces {ps : List (List Int)} {ms : List Int} (h : MV ms) (e : ps.flatten = ms) : ∀ m ∈ ps, MV m := fun m hm => by
  have s : m.Sublist ps.flatten := List.sublist_flatten_of_mem hm
  rw [e] at s
  exact ⟨Nat.le_trans s.length_le h.len, fun x hx => h.big x (s.subset hx)⟩
section
variable {Q : D → Store → Prop} {QB : Bool → Store → Prop} {E : Nat → List D → Store → Prop} {μ : Store} {k : Nat}
theorem w_neB {a b : Bool} (q : QB (!(a == b)) μ) : Wp (cmpB .ne (.bl a) (.bl b) μ) QB E := q
theorem w_slR2 {ns : List Int} {l r : Option Int} (q : Q (.loc μ.length) (μ ++ [.lst ((cutL ns l r).map .int)])) : Wp (slD (scriptD ns) l r μ) Q E := by
  refine w_slR ?_
  rw [cutL_map]
  exact q
/-- pieces, then joined -/
theorem sp_law {ns : List Int} (hn : ns.length ≤ 63) (q : ∀ μ', Q (.bl true) μ') : Wp (callN fns (k + 8) 38 [scriptD ns] []) Q E := by
  refine w_fn rfl rfl ?_
  have q' : ∀ n μ', retQ n (.bl true) μ' Q := fun n μ' => ⟨fun _ _ => q _, fun _ => q _⟩
  unfold flaw dlaw
  tm_at "s"
  tm_at "w"
  refine sp_source hn (by decide) fun as bs s0 => ?_
  have f0 : Flat ([] ++ [Ob.lst (as.map D.int), Ob.lst (bs.map D.int), srcO s0]) := Flat.app Flat.nil (Flat.cons (fl_ints _) (Flat.cons (fl_ints _) (Flat.cons (fl_src _) Flat.nil)))
  tm_at "w"
  refine sp_bounds (s := s0) rfl fun lo hi s1 b1 b2 b3 => ?_
  have b : BB lo hi := ⟨b1, b2, b3⟩
  have f1 := f0.set (p := ([] : Store).length + 2) (s := s1)
  generalize ([] ++ [Ob.lst (as.map D.int), Ob.lst (bs.map D.int), srcO s0]).set (([] : Store).length + 2) (srcO s1) = μ1 at f1 ⊢
  tm_at "w"
  refine sp_source hn (by decide) fun as1 bs1 s2 => ?_
  have f2 := f1.app (Flat.cons (fl_ints as1) (Flat.cons (fl_ints bs1) (Flat.cons (fl_src s2) Flat.nil)))
  have g2 : (μ1 ++ [Ob.lst (as1.map D.int), Ob.lst (bs1.map D.int), srcO s2])[μ1.length + 2]? = some (srcO s2) := by simp
  generalize μ1 ++ [Ob.lst (as1.map D.int), Ob.lst (bs1.map D.int), srcO s2] = μ2 at f2 g2 ⊢
  generalize μ1.length + 2 = p2 at g2 ⊢
  tm_at "w"
  refine w_slR2 ?_
  generalize hcs : cutL ns (some 3) (some 63) = cs
  have lcs : cs.length ≤ 64 := by rw [← hcs]; exact Nat.le_trans cutL_len (by omega)
  have lp2 : p2 < μ2.length := (List.getElem?_eq_some_iff.mp g2).1
  have f3 := f2.app (Flat.cons (fl_ints cs) Flat.nil)
  have g3 : (μ2 ++ [Ob.lst (cs.map D.int)])[p2]? = some (srcO s2) := by rw [List.getElem?_append_left lp2]; exact g2
  have g4 : (μ2 ++ [Ob.lst (cs.map D.int)])[μ2.length]? = some (.lst (cs.map D.int)) := by simp
  have ne : p2 ≠ μ2.length := by omega
  generalize μ2 ++ [Ob.lst (cs.map D.int)] = μ3 at f3 g3 g4 ⊢
  generalize μ2.length = c2 at g4 ne ⊢
  tm_at "w"
  rw [← set_same g3]
  refine sp_moves g3 g4 ne lcs (by omega) (by omega) fun one s3 m1 => ?_
  have f4 := f3.set (p := p2) (s := s3)
  generalize μ3.set p2 (srcO s3) = μ4 at f4 ⊢
  tm_at "w"
  refine sp_source hn (by decide) fun as2 bs2 s4 => ?_
  have f5 := f4.app (Flat.cons (fl_ints as2) (Flat.cons (fl_ints bs2) (Flat.cons (fl_src s4) Flat.nil)))
  have g5 : (μ4 ++ [Ob.lst (as2.map D.int), Ob.lst (bs2.map D.int), srcO s4])[μ4.length + 2]? = some (srcO s4) := by simp
  generalize μ4 ++ [Ob.lst (as2.map D.int), Ob.lst (bs2.map D.int), srcO s4] = μ5 at f5 g5 ⊢
  generalize μ4.length + 2 = p at g5 ⊢
  have lp : p < μ5.length := (List.getElem?_eq_some_iff.mp g5).1
  tm_at "w"
  rw [← set_same g5]
  refine sp_near g5 m1 (by omega) (by omega) fun other s5 m2 => ?_
  with_reducible refine w_gN ?_
  with_reducible refine sq_nx ?_
  refine w_seqJ (fun σ' μ' => ∃ (ms zs : List Int) (s : S3) (v : Option D), MV ms ∧ MV zs ∧ μ' = μ5.set p (srcO s) ∧ σ' = [some (scriptD ns), some (.loc (([] : Store).length + 2)), some (.int lo), some (.int hi), some (intsT ms), some (.loc p), some (intsT zs), v, none, none, none, none]) ?_ ?_
  · tm_at "w"
    refine sp_drawS g5 (by decide) (by decide) fun d6 s6 a6 c6 => ?_
    tm_at "w"
    refine c2D (fun g => ?_) (fun g => ?_)
    · tm_at "w"
      refine sp_drawS g5 (by decide) (by decide) fun d7 s7 a7 c7 => ?_
      tm_at "w"
      have be : Big (if (1000000000000000000000000000000 : Int) < hi - lo then 1000000000000000000000000000000 else hi - lo) ∧ Big (-(if (1000000000000000000000000000000 : Int) < hi - lo then 1000000000000000000000000000000 else hi - lo)) := by
        refine ⟨⟨?_, ?_⟩, ⟨?_, ?_⟩⟩ <;> split <;> omega
      generalize (if (1000000000000000000000000000000 : Int) < hi - lo then 1000000000000000000000000000000 else hi - lo) = en at be ⊢
      have fin : ∀ e : Int, Big e → ∃ σ', Fl.nx ((([some (scriptD ns), some (.loc (([] : Store).length + 2)), some (.int lo), some (.int hi), some (intsT one), some (.loc p), some (intsT other), some (.int e), none, none, none, none] : Mini.Env).set 4 (some (intsT (one.take (63 : Int).toNat ++ [e])))).set 6 (some (intsT (other.take (63 : Int).toNat ++ [e])))) = Fl.nx σ' ∧
          ∃ (ms zs : List Int) (s : S3) (v : Option D), MV ms ∧ MV zs ∧ μ5.set p (srcO s7) = μ5.set p (srcO s) ∧ σ' = [some (scriptD ns), some (.loc (([] : Store).length + 2)), some (.int lo), some (.int hi), some (intsT ms), some (.loc p), some (intsT zs), v, none, none, none, none] := fun e he =>
        ⟨_, rfl, _, _, s7, some (.int e), mv_snoc m1 he, mv_snoc m2 he, rfl, rfl⟩
      have l1 : (one.take (63 : Int).toNat).length ≤ 1000 := by rw [List.length_take]; have := m1.len; omega
      have l2 : (other.take (63 : Int).toNat).length ≤ 1000 := by rw [List.length_take]; have := m2.len; omega
      refine c2D (fun g => ?_) (fun g => ?_)
      · tm_at "w"
        refine w_slTo (by decide) ?_
        tm_at "w"
        refine w_add1 l1 ?_
        tm_at "w"
        refine w_slTo (by decide) ?_
        tm_at "w"
        refine w_add1 l2 ?_
        tm_at "w"
        exact fin en be.1
      · tm_at "w"
        refine w_slTo (by decide) ?_
        tm_at "w"
        refine w_add1 l1 ?_
        tm_at "w"
        refine w_slTo (by decide) ?_
        tm_at "w"
        refine w_add1 l2 ?_
        tm_at "w"
        exact fin (-en) be.2
    · tm_at "w"
      exact ⟨_, rfl, one, other, s6, none, m1, m2, rfl, rfl⟩
  rintro σ' μ' ⟨ms, zs, s, v, m1, m2, rfl, rfl⟩
  have lm : ms.length < 1000000000 := Nat.lt_of_le_of_lt m1.len (by decide)
  have lz : zs.length < 1000000000 := Nat.lt_of_le_of_lt m2.len (by decide)
  have g6 : (μ5.set p (srcO s))[p]? = some (srcO s) := set_get g5
  have f6 := f5.set (p := p) (s := s)
  generalize μ5.set p (srcO s) = μ6 at g6 f6 ⊢
  tm_at "w"
  refine sp_triple b2 lm ?_
  tm_at "w"
  refine sp_triple b2 lz ?_
  tm_at "w"
  have lp6 : p < μ6.length := (List.getElem?_eq_some_iff.mp g6).1
  have g7 : (μ6 ++ [Ob.lst [trD (triple lo hi ms), trD (triple lo hi zs)]])[p]? = some (srcO s) := by rw [List.getElem?_append_left lp6]; exact g6
  have g8 : (μ6 ++ [Ob.lst [trD (triple lo hi ms), trD (triple lo hi zs)]])[μ6.length]? = some (.lst [trD (triple lo hi ms), trD (triple lo hi zs)]) := by simp
  have f7 := f6.app (Flat.cons (fl_tr2 (triple lo hi ms) (triple lo hi zs)) Flat.nil)
  have ne7 : p ≠ μ6.length := by omega
  generalize μ6 ++ [Ob.lst [trD (triple lo hi ms), trD (triple lo hi zs)]] = μ7 at g7 g8 f7 ⊢
  generalize μ6.length = t7 at g8 ne7 ⊢
  rw [← set_same g7]
  refine sp_starts g7 g8 ne7 b1 b2 b3 fun xs s8 sta => ?_
  have lp7 : p < μ7.length := (List.getElem?_eq_some_iff.mp g7).1
  have g9 : (μ7.set p (srcO s8) ++ [Ob.lst (xs.map D.int)])[p]? = some (srcO s8) := by rw [List.getElem?_append_left (by rw [List.length_set]; exact lp7)]; exact set_get g7
  have g10 : (μ7.set p (srcO s8) ++ [Ob.lst (xs.map D.int)])[μ7.length]? = some (.lst (xs.map D.int)) := by
    rw [List.getElem?_append_right (by rw [List.length_set]; exact Nat.le_refl _), List.length_set]
    simp
  have f8 := (f7.set (p := p) (s := s8)).app (Flat.cons (fl_ints xs) Flat.nil)
  generalize μ7.set p (srcO s8) ++ [Ob.lst (xs.map D.int)] = μ8 at g9 g10 f8 ⊢
  generalize μ7.length = t8 at g10 ⊢
  tm_at "w"
  refine sp_every_start b m1 g10 sta.rng sta.len ?_
  tm_at "w"
  refine sp_every_start b m2 g10 sta.rng sta.len ?_
  tm_at "w"
  refine w_srcL g10 ?_
  refine w_lcP (fun _ => true) (fun d => match d with
    | .int x => .bl (decide (held lo hi x ms = held lo hi x zs))
    | d => d) μ8 (by rw [List.length_map]; exact Nat.lt_of_le_of_lt sta.len (by decide)) (feeds_L g10) (fun d hd => ?_) ?_
  · obtain ⟨x, _, rfl⟩ := List.mem_map.mp hd
    tm_at "w"
    refine w_ret ⟨rfl, c2T ?_⟩
    tm_at "w"
    refine sp_held b2 lm ?_
    tm_at "w"
    refine sp_held b2 lz ?_
    tm_at "w"
    exact ⟨rfl, rfl⟩
  rw [List.filter_eq_self.mpr (fun _ _ => rfl), List.map_map]
  have e1 : xs.map ((fun d : D => match d with
    | .int x => .bl (decide (held lo hi x ms = held lo hi x zs))
    | d => d) ∘ D.int) = (xs.map fun x => decide (held lo hi x ms = held lo hi x zs)).map D.bl := by
    rw [List.map_map]
    rfl
  rw [e1]
  refine w_allI ?_
  have e2 : ((xs.map fun x => decide (held lo hi x ms = held lo hi x zs)).all id) = decide (triple lo hi ms = triple lo hi zs) := by
    rw [all_map_bl]
    by_cases g : triple lo hi ms = triple lo hi zs
    · rw [decide_eq_true g, List.all_eq_true]
      intro x hx
      obtain ⟨r1, r2⟩ := sta.rng x hx
      rw [← app_triple b2 ms r1 r2, ← app_triple b2 zs r1 r2, g]
      exact decide_eq_true rfl
    · rw [decide_eq_false g]
      refine Bool.eq_false_iff.mpr fun z => g ?_
      rw [List.all_eq_true] at z
      have z : ∀ x ∈ xs, held lo hi x ms = held lo hi x zs := fun x hx => of_decide_eq_true (z x hx)
      exact triple_ext b2 (z _ sta.lo_) (z _ sta.hi_) fun x h1 h2 h3 => z x (sta.has x h1 h2 h3)
  rw [e2]
  tm_at "w"
  refine sp_clamp b1 b2 b3 m1.big m1.len ?_
  tm_at "w"
  refine sp_clamp b1 b2 b3 m2.big m2.len ?_
  refine w_eqTr ?_
  tm_at "w"
  refine w_neB ?_
  rw [show (decide (triple lo hi ms = triple lo hi zs) == decide (triple lo hi ms = triple lo hi zs)) = true by simp]
  tm_at "w"
  -- the pieces
  rw [← set_same g9]
  refine sp_pieces g9 (by have := m1.len; omega) fun ps s9 e9 n9 k9 => ?_
  have lp8 : p < μ8.length := (List.getElem?_eq_some_iff.mp g9).1
  have g11 : (μ8.set p (srcO s9) ++ [pcsO ps])[p]? = some (srcO s9) := by rw [List.getElem?_append_left (by rw [List.length_set]; exact lp8)]; exact set_get g9
  have g12 : (μ8.set p (srcO s9) ++ [pcsO ps])[μ8.length]? = some (pcsO ps) := by
    rw [List.getElem?_append_right (by rw [List.length_set]; exact Nat.le_refl _), List.length_set]
    simp
  have f9 := (f8.set (p := p) (s := s9)).app (Flat.cons (o := pcsO ps) (fun n => fl_pcs n ps) Flat.nil)
  have ne9 : p ≠ μ8.length := by omega
  generalize μ8.set p (srcO s9) ++ [pcsO ps] = μ9 at g11 g12 f9 ⊢
  generalize μ8.length = t9 at g12 ne9 ⊢
  tm_at "w"
  rw [← set_same g11]
  refine sp_joined b g11 g12 ne9 f9.wf (mv_pieces m1 e9) n9 k9 (by rw [e9]; have := m1.len; omega) fun s10 => ?_
  have g13 : (μ9.set p (srcO s10))[p]? = some (srcO s10) := set_get g11
  have f10 := f9.set (p := p) (s := s10)
  generalize μ9.set p (srcO s10) = μ10 at g13 f10 ⊢
  have hmz : ∀ m ∈ [ms, zs], MV m := fun m hm => by
    simp only [List.mem_cons, List.not_mem_nil, or_false] at hm
    rcases hm with rfl | rfl
    · exact m1
    · exact m2
  have hzm : ∀ m ∈ [zs, ms], MV m := fun m hm => by
    simp only [List.mem_cons, List.not_mem_nil, or_false] at hm
    rcases hm with rfl | rfl
    · exact m2
    · exact m1
  have lF : [ms, zs].flatten.length ≤ 1000 ∧ [zs, ms].flatten.length ≤ 1000 := by
    have := m1.len
    have := m2.len
    simp only [List.flatten_cons, List.flatten_nil, List.append_nil, List.length_append]
    omega
  tm_at "w"
  have lp10 : p < μ10.length := (List.getElem?_eq_some_iff.mp g13).1
  have g14 : (μ10 ++ [pcsO [ms, zs]])[p]? = some (srcO s10) := by rw [List.getElem?_append_left lp10]; exact g13
  have g15 : (μ10 ++ [pcsO [ms, zs]])[μ10.length]? = some (pcsO [ms, zs]) := by simp
  have f11 := f10.app (Flat.cons (o := pcsO [ms, zs]) (fun n => fl_pcs n [ms, zs]) Flat.nil)
  have ne11 : p ≠ μ10.length := by omega
  show Wp (callN fns (k + 7) 27 [.loc p, .int lo, .int hi, .loc μ10.length] (μ10 ++ [pcsO [ms, zs]])) _ _
  generalize μ10 ++ [pcsO [ms, zs]] = μ11 at g14 g15 f11 ⊢
  generalize μ10.length = t11 at g15 ne11 ⊢
  rw [← set_same g14]
  refine sp_joined b g14 g15 ne11 f11.wf hmz (Nat.le_of_ble_eq_true rfl) (Nat.le_of_ble_eq_true rfl) lF.1 fun s11 => ?_
  have g16 : (μ11.set p (srcO s11))[p]? = some (srcO s11) := set_get g14
  have f12 := f11.set (p := p) (s := s11)
  generalize μ11.set p (srcO s11) = μ12 at g16 f12 ⊢
  tm_at "w"
  have lp12 : p < μ12.length := (List.getElem?_eq_some_iff.mp g16).1
  have g17 : (μ12 ++ [pcsO [zs, ms]])[p]? = some (srcO s11) := by rw [List.getElem?_append_left lp12]; exact g16
  have g18 : (μ12 ++ [pcsO [zs, ms]])[μ12.length]? = some (pcsO [zs, ms]) := by simp
  have f13 := f12.app (Flat.cons (o := pcsO [zs, ms]) (fun n => fl_pcs n [zs, ms]) Flat.nil)
  have ne13 : p ≠ μ12.length := by omega
  show Wp (callN fns (k + 7) 27 [.loc p, .int lo, .int hi, .loc μ12.length] (μ12 ++ [pcsO [zs, ms]])) _ _
  generalize μ12 ++ [pcsO [zs, ms]] = μ13 at g17 g18 f13 ⊢
  generalize μ12.length = t13 at g18 ne13 ⊢
  rw [← set_same g17]
  refine sp_joined b g17 g18 ne13 f13.wf hzm (Nat.le_of_ble_eq_true rfl) (Nat.le_of_ble_eq_true rfl) lF.2 fun s13 => ?_
  have g19 : (μ13.set p (srcO s13))[p]? = some (srcO s13) := set_get g17
  have f14 := f13.set (p := p) (s := s13)
  generalize μ13.set p (srcO s13) = μ14 at g19 f14 ⊢
  with_reducible refine w_truB ?_
  with_reducible refine c2N ?_
  with_reducible refine c2T ?_
  with_reducible refine w_snil ?_
  with_reducible refine sq_nx ?_
  refine w_seqJ (fun σ' μ' => μ' = μ14 ∧ ∃ (vs : List (Option D)), σ' = [some (scriptD ns), some (.loc (([] : Store).length + 2)), some (.int lo), some (.int hi), some (intsT ms), some (.loc p), some (intsT zs)] ++ vs ∧ vs.length = 5) ?_ ?_
  · tm_at "w"
    refine c2D (fun g => ?_) (fun g => ?_)
    · tm_at "w"
      refine sp_every_cut b m1 ?_
      tm_at "w"
      exact ⟨_, rfl, rfl, _, rfl, rfl⟩
    · tm_at "w"
      exact ⟨_, rfl, rfl, _, rfl, rfl⟩
  rintro σ' μ' ⟨rfl, vs, rfl, hvs⟩
  obtain ⟨v1, v2, v3, v4, v5, rfl⟩ : ∃ v1 v2 v3 v4 v5, vs = [v1, v2, v3, v4, v5] := by
    match vs, hvs with
    | [v1, v2, v3, v4, v5], _ => exact ⟨v1, v2, v3, v4, v5, rfl⟩
  tm_at "s"
  tm_at "w"
  refine ⟨⟨by decide, by decide⟩, ?_⟩
  refine w_lcP (ds := [0, 1, 2].map D.int) (fun _ => true) (fun _ => .bl true) μ' (Nat.le_of_ble_eq_true rfl) feeds_R (fun d hd => ?_) ?_
  · obtain ⟨i, hi2, rfl⟩ := List.mem_map.mp hd
    have hi3 : i = 0 ∨ i = 1 ∨ i = 2 := by
      simp only [List.mem_cons, List.not_mem_nil, or_false] at hi2
      exact hi2
    tm_at "w"
    refine w_ret ⟨rfl, c2T ?_⟩
    tm_at "w"
    refine sp_spoils hi3 f14.wf ⟨rfl, rfl⟩
  refine w_allI (bs := [true, true, true]) ?_
  refine w_truB ?_
  refine c2N (c2_of rfl ?_)
  tm_at "w"
  rw [← set_same g19]
  refine sp_refusals b m1 g19 fun μe => ?_
  tm_at "w"
  exact q' _ _
end
theorem law_true (ns : List Int) (h1 : ns.length ≤ 63) (h2 : ∀ z ∈ ns, Builtin.Int.intBits z ≤ 1048576) : ∃ μ, callN fns 40 38 [scriptD ns] [] = .ok (.bl true) μ := by
  obtain ⟨a, μ', e, rfl⟩ := w_get (sp_law (k := 32) (Q := fun d _ => d = .bl true) h1 fun _ => rfl)
  exact ⟨μ', e⟩
end K93

set_option Elab.async false
set_option linter.all false
set_option maxRecDepth 100000
set_option maxHeartbeats 0
namespace K93
open PySem PySem.Spec L2 Mini
def nm0 : List Str := ["SplitError", "TooMany", "BadNumber", "is_integer", "is_within", "is_numbers", "MOST_MOVES", "GREATEST", "check_moves", "check_bounds", "check_start", "middle_of"]
def nm1 : List Str := ["clamped", "made_clamp", "clamp", "apply_clamp", "join_clamps", "SPOILERS", "clamp_spoiler", "_law_source", "_law_draw", "_law_pick", "_law_bounds", "_law_move"]
def nm2 : List Str := ["_law_moves", "_law_near", "_law_held", "_law_triple", "_law_starts", "_law_is_integer", "_law_is_triple", "_law_every_start", "_law_pieces", "_law_joined", "_law_every_cut", "_law_are_moves"]
def nm3 : List Str := ["_law_spoils", "_law_bad_bounds", "_law_bad_start", "_law_bad_moves", "_law_clamped_word", "_law_clamp_word", "_law_spoiler_word", "_law_refusals"]
def loose : List Str := nm0 ++ nm1 ++ nm2 ++ nm3
abbrev Rw : PySem.W.OpenRow := PySem.W.OpenLaw.row PySem.Challenge.rw_splitwhole_k93_whole_clamps
abbrev hk : PySem.W.Hook := hd.hook 4
def ob (s : PySem.W.SharedT) : HdA := hd.obsG 4 (HandSHeadRun.getT s)
theorem ob_eq (s : PySem.W.SharedT) : ob s = hk.obs s.abs := obsG_eq (HandSHeadRun.getT_eq s)
theorem run (w : World) : HandSHeadRun.RunEq Rw (PySem.W.view Rw.prog [48]) hk ob 3000 loose w := by
  intro os
  kernel_rfl
end K93

set_option Elab.async false
set_option linter.all false
set_option maxRecDepth 100000
set_option maxHeartbeats 0
open PySem PySem.W PySem.Calls PyProof.Rows
set_option Elab.async false
set_option maxRecDepth 100000 in
set_option maxHeartbeats 0 in
theorem PySem.Challenge.cw_splitwhole_k93_whole_clamps_holds : PySem.Challenge.rw_splitwhole_k93_whole_clamps.Holds := by
  w_on; o_law
  refine HandSHeadRun.head_any (r := OpenLaw.row PySem.Challenge.rw_splitwhole_k93_whole_clamps) (q := view (OpenLaw.row PySem.Challenge.rw_splitwhole_k93_whole_clamps).prog [48]) (H := K93.hk) (ob := K93.ob) (M := 3000) (loose := K93.loose)
    (d := HandSHeadRun.topDef (OpenLaw.row PySem.Challenge.rw_splitwhole_k93_whole_clamps).prog 48) (kwd := []) K93.ob_eq (by kernel_rfl) (fun s => by kernel_rfl) K93.run (by kernel_rfl) (by kernel_rfl) (by kernel_rfl) (by rfl) (by first | assumption | decide +kernel) (by decide +kernel) ⟨rfl, rfl, rfl, rfl, rfl, by decide +kernel⟩ ?hw ?hc
  case hw => w_witness2
  case hc =>
    refine Mini.walk_ofEB (l := PySem.Challenge.rw_splitwhole_k93_whole_clamps) (n := 63) (k := 40) (x := "script") rfl (by decide) (by kernel_rfl) ⟨rfl, by decide, by decide⟩ ?F
    intro w mg fa h Y N hmg0
    obtain ⟨K, KX, c⟩ := Y
    have hmg : mg ("law" : PySem.Str) = some (.ref fa) := by
      have e : (HandSHeadRun.topDef (OpenLaw.row PySem.Challenge.rw_splitwhole_k93_whole_clamps).prog 48).name = ("law" : PySem.Str) := by kernel_rfl
      rw [← e]
      exact hmg0
    exact Mini.law_end (h := K93.hd) (n := 60) (fs := K93.fns) (i := 38) (x := K93.mlaw) K93.allD (by kernel_rfl) (by kernel_rfl) KX N c rfl rfl rfl rfl hmg K93.law_true

