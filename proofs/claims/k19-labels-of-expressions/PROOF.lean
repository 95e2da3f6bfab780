import PyProof.Rows.All
import Wide.All
import OpenK.AllK
import Wide.FinOn
import HandS.ForMost
import HandS.More
import HandS.WrittenGet
import HandS.TupAny
import HandS.Style
import HandS.Flow
import HandS.Conv
import HandS.Deep
import HandS.SortInts
import HandS.Rev
import HandS.Defaults
import HandS.IsInst
import HandS.HeadWalk
import HandS.NoneIn
import HandS.Small
import HandS.Exc
import HandS.Head2
import HandS.HeadEnd
import HandS.HeadHook3
import PySem.Challenge.RW_handshidden_k19_labels_of_expressions
set_option Elab.async false
set_option linter.all false
set_option maxRecDepth 100000
section
set_option maxHeartbeats 200000
/-! Mn: a small deterministic reading of the part of Python that the laws and the program use: values by value, a store of cells for what is changed. -/
namespace Mn
open PySem

/-! ### values, objects, stores -/
inductive Val where
  | non | bl (b : Bool) | int (i : Int) | str (x : Str)
  | tup (xs : List Val) | lst (xs : List Val) | dct (kvs : List (Val × Val))
  | ktup (xs : List Val) | klst (xs : List Val) | kdct (kvs : List (Str × Val))
  | ref (i : Nat) | fn (x : Str)
  deriving Inhabited
mutual
def Val.beq : Val → Val → Bool
  | .non, .non => true
  | .bl a, .bl b => a == b
  | .int a, .int b => a == b
  | .str a, .str b => a == b
  | .tup a, .tup b => Val.beqL a b
  | .lst a, .lst b => Val.beqL a b
  | .dct a, .dct b => Val.beqD a b
  | .ktup a, .ktup b => Val.beqL a b
  | .klst a, .klst b => Val.beqL a b
  | .kdct a, .kdct b => Val.beqK a b
  | .ref a, .ref b => a == b
  | .fn a, .fn b => a == b
  | _, _ => false
def Val.beqL : List Val → List Val → Bool
  | [], [] => true
  | a :: as, b :: bs => Val.beq a b && Val.beqL as bs
  | _, _ => false
def Val.beqD : List (Val × Val) → List (Val × Val) → Bool
  | [], [] => true
  | (a, c) :: as, (b, d) :: bs => Val.beq a b && Val.beq c d && Val.beqD as bs
  | _, _ => false
def Val.beqK : List (Str × Val) → List (Str × Val) → Bool
  | [], [] => true
  | (a, c) :: as, (b, d) :: bs => a == b && Val.beq c d && Val.beqK as bs
  | _, _ => false
end
mutual
theorem Val.beq_iff : ∀ a b : Val, Val.beq a b = true ↔ a = b
  | .non, b => by cases b <;> simp [Val.beq]
  | .bl a, b => by cases b <;> simp [Val.beq]
  | .int a, b => by cases b <;> simp [Val.beq]
  | .str a, b => by cases b <;> simp [Val.beq]
  | .tup a, b => by cases b <;> simp [Val.beq, Val.beqL_iff a]
  | .lst a, b => by cases b <;> simp [Val.beq, Val.beqL_iff a]
  | .dct a, b => by cases b <;> simp [Val.beq, Val.beqD_iff a]
  | .ktup a, b => by cases b <;> simp [Val.beq, Val.beqL_iff a]
  | .klst a, b => by cases b <;> simp [Val.beq, Val.beqL_iff a]
  | .kdct a, b => by cases b <;> simp [Val.beq, Val.beqK_iff a]
  | .ref a, b => by cases b <;> simp [Val.beq]
  | .fn a, b => by cases b <;> simp [Val.beq]
theorem Val.beqL_iff : ∀ a b : List Val, Val.beqL a b = true ↔ a = b
  | [], b => by cases b <;> simp [Val.beqL]
  | x :: a, b => by cases b <;> simp [Val.beqL, Val.beq_iff x, Val.beqL_iff a]
theorem Val.beqD_iff : ∀ a b : List (Val × Val), Val.beqD a b = true ↔ a = b
  | [], b => by cases b <;> simp [Val.beqD]
  | (x, z) :: a, b => by
    cases b with
    | nil => simp [Val.beqD]
    | cons p b => obtain ⟨y, w⟩ := p; simp [Val.beqD, Val.beq_iff x, Val.beq_iff z, Val.beqD_iff a]
theorem Val.beqK_iff : ∀ a b : List (Str × Val), Val.beqK a b = true ↔ a = b
  | [], b => by cases b <;> simp [Val.beqK]
  | (x, z) :: a, b => by
    cases b with
    | nil => simp [Val.beqK]
    | cons p b => obtain ⟨y, w⟩ := p; simp [Val.beqK, Val.beq_iff z, Val.beqK_iff a]
end
instance : DecidableEq Val := fun a b => decidable_of_iff _ (Val.beq_iff a b)

inductive Obj where
  | lst (xs : List Val) | dct (kvs : List (Val × Val)) | ins (C : Str) (fs : List (Str × Val))
  deriving Inhabited, DecidableEq
abbrev Store := List Obj
abbrev Env := List (Option Val)

inductive Res (α : Type) where
  | ok (a : α) (st : Store)
  | exc (C : Str) (v : Val) (st : Store)
  | bad
def M (α : Type) : Type := Store → Res α
@[reducible] def M.run {α : Type} (m : M α) (st : Store) : Res α := m st
instance : Monad M where
  pure a := fun st => .ok a st
  bind m f := fun st => match m st with
    | .ok a st' => f a st'
    | .exc c v st' => .exc c v st'
    | .bad => .bad
def bad {α : Type} : M α := fun _ => .bad
def lift {α : Type} (o : Option α) : M α := fun st => match o with
  | some a => .ok a st
  | none => .bad
def getSt : M Store := fun st => .ok st st
def setSt (st : Store) : M Unit := fun _ => .ok () st
/-- a partial look at the store -/
def look {α : Type} (f : Store → Option α) : M α := fun st => match f st with
  | some a => .ok a st
  | none => .bad
def guardM (b : Bool) : M Unit := fun st => match b with
  | true => .ok () st
  | false => .bad
def alloc (o : Obj) : M Val := fun st => .ok (.ref st.length) (st ++ [o])
def write (i : Nat) (o : Obj) : M Unit := fun st => .ok () (st.set i o)

/-! ### operations by values -/
/-- the items of a list or a tuple -/
def lstOf (st : Store) : Val → Option (List Val)
  | .lst xs => some xs
  | .klst xs => some xs
  | .ref i => match st[i]? with
    | some (.lst xs) => some xs
    | _ => none
  | _ => none
def tupOf : Val → Option (List Val)
  | .tup xs => some xs
  | .ktup xs => some xs
  | _ => none
def ownTup : Val → Option (List Val)
  | .tup xs => some xs
  | _ => none
def dctOf (st : Store) : Val → Option (List (Val × Val))
  | .dct kvs => some kvs
  | .ref i => match st[i]? with
    | some (.dct kvs) => some kvs
    | _ => none
  | _ => none
/-- a list that no constant of the module is -/
def ownLst (st : Store) : Val → Option (List Val)
  | .klst _ => none
  | v => lstOf st v
/-- the items of a list or a tuple -/
def seqOf (st : Store) (v : Val) : Option (List Val) := match tupOf v with
  | some xs => some xs
  | none => lstOf st v
def insOf (st : Store) : Val → Option (Nat × Str × List (Str × Val))
  | .ref i => match st[i]? with
    | some (.ins C fs) => some (i, C, fs)
    | _ => none
  | _ => none
def isKey : Val → Bool
  | .int _ => true
  | .str _ => true
  | _ => false
/-- what may be a key of a dict: an int, a text -/
def keyOk (v : Val) : Bool := isKey v
def getK (kvs : List (Val × Val)) (k : Val) : Option Val := (kvs.find? fun q => decide (q.1 = k)).map (·.2)
def putKv (kvs : List (Val × Val)) (k v : Val) : List (Val × Val) :=
  if kvs.any fun q => decide (q.1 = k) then kvs.map fun q => if q.1 = k then (q.1, v) else q else kvs ++ [(k, v)]
def dropKv (kvs : List (Val × Val)) (k : Val) : List (Val × Val) := kvs.filter fun q => decide (q.1 ≠ k)
def getF : List (Str × Val) → Str → Option Val
  | [], _ => none
  | (g, v) :: r, f => if g = f then some v else getF r f
def putFv (f : Str) (v : Val) : List (Str × Val) → List (Str × Val)
  | [] => [(f, v)]
  | (g, x) :: r => if g = f then (g, v) :: r else (g, x) :: putFv f v r

inductive Op where
  | add | sub | mul | fdiv | mod | shl | shr | band | bor | pow
  deriving DecidableEq
def small64 (i : Int) : Bool := decide (-(2 ^ 64) < i) && decide (i < 2 ^ 64)
def powOk (i j : Int) : Bool := decide (0 ≤ j) && (decide (j ≤ 1000000) && decide (i.natAbs < 2 ^ 64))
def binInt : Op → Int → Int → Option Int
  | .add, i, j => some (i + j)
  | .sub, i, j => some (i - j)
  | .mul, i, j => if small64 i || small64 j then some (i * j) else none
  | .fdiv, i, j => if decide (0 < j) && decide (j < 1073741824) then some (i / j) else none
  | .mod, i, j => if 0 < j then some (i % j) else none
  | .shl, i, j => if powOk i j then some (i * 2 ^ j.toNat) else none
  | .shr, i, j => if 0 ≤ j then some (i / 2 ^ j.toNat) else none
  | .band, i, j => some (Builtin.bitAnd i j)
  | .bor, i, j => some (Builtin.bitOr i j)
  | .pow, i, j => if powOk i j then some (i ^ j.toNat) else none
/-- a op b; the lists are new ones -/
def binop (o : Op) (a b : Val) (st : Store) : Option Val := match a, b with
  | .int i, .int j => (binInt o i j).map .int
  | .str x, .str y => if o = .add ∧ x.length + y.length ≤ sizeLine then some (.str (x ++ y)) else none
  | a, b => match o with
    | .add => (match ownTup a with
      | some xs => (match ownTup b with
        | some ys => if xs.length + ys.length ≤ sizeLine then some (.tup (xs ++ ys)) else none
        | none => none)
      | none => match ownLst st a with
        | some xs => (match ownLst st b with
          | some ys => if xs.length + ys.length ≤ sizeLine then some (.lst (xs ++ ys)) else none
          | none => none)
        | none => none)
    | .mul => (match ownLst st a with
      | some xs => (match b with
        | .int k => if decide (-(2 ^ 63) ≤ k) && (decide (k < 2 ^ 63) && decide (xs.length * k.toNat ≤ sizeLine)) then some (.lst (List.replicate k.toNat xs).flatten) else none
        | _ => none)
      | none => none)
    | _ => none

/-! ### data -/
mutual
def toPy : Val → Option PyData
  | .non => some .none
  | .bl b => some (.bool b)
  | .int i => some (.int i)
  | .str x => some (.str x)
  | .tup xs => (toPyL xs).map .tuple
  | .ktup xs => (toPyL xs).map .tuple
  | .lst xs => (toPyL xs).map .list
  | .klst xs => (toPyL xs).map .list
  | _ => none
def toPyL : List Val → Option (List PyData)
  | [] => some []
  | x :: xs => match toPy x with
    | some d => (match toPyL xs with
      | some ds => some (d :: ds)
      | none => none)
    | none => none
end
/-- a cell that is a list, read -/
def deref (st : Store) : Val → Val
  | .ref i => match st[i]? with
    | some (.lst xs) => .lst xs
    | _ => .ref i
  | v => v
/-- a == b, for data at most 64 deep -/
def eqVal (a b : Val) (st : Store) : Option Bool := match toPy (deref st a), toPy (deref st b) with
  | some d, some e => if SeqAt.shaped d && SeqAt.shaped e then some (PyData.eqv d e) else none
  | _, _ => none
def flat : Val → Bool
  | .non => true
  | .bl _ => true
  | .int _ => true
  | .str _ => true
  | _ => false
def eqFlat : Val → Val → Bool
  | .non, .non => true
  | .bl a, .bl b => a == b
  | .bl a, .int b => (if a then 1 else 0) == b
  | .int a, .bl b => a == (if b then 1 else 0)
  | .int a, .int b => a == b
  | .str a, .str b => a == b
  | _, _ => false
/-- x in y -/
def inVal (x y : Val) (st : Store) : Option Bool := match y with
  | .str t => (match x with
    | .str s => some (!(Builtin.Str.occurrences t s 0 t.length 1).isEmpty)
    | _ => none)
  | .kdct kvs => (match x with
    | .str s => some (getF kvs s).isSome
    | _ => none)
  | y => match dctOf st y with
    | some kvs => if keyOk x then some (getK kvs x).isSome else none
    | none => match tupOf y with
      | some ys => if flat x && ys.all flat then some (ys.any fun z => eqFlat z x) else none
      | none => match lstOf st y with
        | some ys => if flat x && ys.all flat then some (ys.any fun z => eqFlat z x) else
          (match toPy x with
          | some d => (match toPyL ys with
            | some ds => if SeqAt.shaped d && SeqAt.shaped (.list ds) then some (ds.any fun z => PyData.eqv z d) else none
            | none => none)
          | none => none)
        | none => none
inductive Cm where
  | lt | le | gt | ge | eq | ne | is_ | isnot | in_ | notin
  deriving DecidableEq
def cmpVal (o : Cm) (a b : Val) (st : Store) : Option Bool := match o with
  | .eq => eqVal a b st
  | .ne => (eqVal a b st).map (!·)
  | .in_ => inVal a b st
  | .notin => (inVal a b st).map (!·)
  | .is_ => (match a, b with
    | a, .non => some (decide (a = .non))
    | .bl x, .bl y => some (decide (x = y))
    | _, _ => none)
  | .isnot => (match a, b with
    | a, .non => some (!decide (a = .non))
    | .bl x, .bl y => some (!decide (x = y))
    | _, _ => none)
  | .lt => (match a, b with
    | .int i, .int j => some (decide (i < j))
    | .str x, .str y => some (decide (x.cps.toList < y.cps.toList))
    | _, _ => none)
  | .le => (match a, b with
    | .int i, .int j => some (decide (i ≤ j))
    | .str x, .str y => some (!decide (y.cps.toList < x.cps.toList))
    | _, _ => none)
  | .gt => (match a, b with
    | .int i, .int j => some (decide (j < i))
    | _, _ => none)
  | .ge => (match a, b with
    | .int i, .int j => some (decide (j ≤ i))
    | _, _ => none)
def truthy (v : Val) (st : Store) : Option Bool := match v with
  | .non => some false
  | .bl b => some b
  | .int i => some (i != 0)
  | .str x => if x.length ≤ sizeLine then some ((x.length : Int) != 0) else none
  | v => match seqOf st v with
    | some xs => some !xs.isEmpty
    | none => (dctOf st v).map fun kvs => !kvs.isEmpty
def ixOf (n : Nat) (i : Int) : Option Nat := L2.ixN n i
/-- a[i] -/
def idxVal (a i : Val) (st : Store) : Option Val := match a with
  | .str z => (match i with
    | .int k => if z.length ≤ sizeLine then (L2.atI z.cps.toList k).map fun c => .str ⟨#[c]⟩ else none
    | _ => none)
  | .kdct kvs => (match i with
    | .str s => getF kvs s
    | _ => none)
  | a => match dctOf st a with
    | some kvs => if keyOk i then getK kvs i else none
    | none => match i with
      | .int k => (seqOf st a).bind fun xs => L2.atI xs k
      | _ => none
def cutL (xs : List Val) (lo hi : Option Int) : List Val := (xs.drop (HT.sIx xs.length 0 lo)).take (HT.sIx xs.length xs.length hi - HT.sIx xs.length 0 lo)
/-- what a slice is -/
inductive Cut where
  | v (v : Val) | l (xs : List Val)
def intO : Option Val → Option (Option Int)
  | none => some none
  | some (.int i) => some (some i)
  | _ => none
def slcVal (a : Val) (lo hi : Option Int) (st : Store) : Option Cut := match a with
  | .str z => if z.length ≤ sizeLine then some (.v (.str (L2.cutS z lo hi))) else none
  | a => match ownTup a with
    | some xs => some (.v (.tup (cutL xs lo hi)))
    | none => (lstOf st a).map fun xs => .l (cutL xs lo hi)

/-! ### the text -/
/-- built-in functions and types that are called -/
inductive Bl where
  | len | abs | int | list | tuple | max2 | min2 | sum | all | any | sorted | max1 | min1 | str | set_
  deriving DecidableEq
/-- methods of built-in types -/
inductive Bm where
  | append | pop | popAt | extend | index | get1 | get2 | clear
  deriving DecidableEq
/-- a target of a for, a comprehension: a name, several names -/
inductive Tg where
  | nm (i : Nat) | nms (is : List Nat)
mutual
inductive Ex where
  | var (i : Nat) | cst (v : Val) | glo (x : Str) | bad
  | tup (es : List Ex) | lst (cell : Bool) (es : List Ex) | dct (cell : Bool) (es : List Ex)
  | bin (o : Op) (a b : Ex) | neg (a : Ex) | not (a : Ex) | cmp (o : Cm) (a b : Ex) | chain (o p : Cm) (a b c : Ex)
  | and (a b : Ex) | or (a b : Ex) | ite (c a b : Ex)
  | idx (a i : Ex) | slc (cell : Bool) (a : Ex) (lo hi : Option Ex) | rev (cell : Bool) (a : Ex)
  | fld (e : Ex) (f : Str)
  | call (f : Str) (es : List Ex) | make (C : Str) (es : List Ex) | meth (e : Ex) (m : Str) (es : List Ex)
  | blt (cell : Bool) (b : Bl) (es : List Ex) | lrng (cell : Bool) (es : List Ex)
  | bm (m : Bm) (e : Ex) (es : List Ex)
  | isi (e : Ex) (T : Str)
  | comp (cell : Bool) (elt : Ex) (t : Tg) (it : It) (ifs : List Ex)
  | comp2 (cell : Bool) (elt : Ex) (t : Tg) (it : It) (ifs : List Ex) (t1 : Tg) (it1 : It) (ifs1 : List Ex)
inductive It where
  | of (e : Ex) | rng (es : List Ex) | rev (e : Ex)
end
inductive Tgt where
  | nm (i : Nat) | tup (ts : List Tgt) | idx (o i : Ex) | fld (o : Ex) (f : Str)
inductive Sm where
  | asg (t : Tgt) (e : Ex) | aug (t : Tgt) (o : Op) (e : Ex)
  | expr (e : Ex) | ret (e : Ex) | retN
  | ite (c : Ex) (a b : List Sm) | for_ (t : Tg) (it : It) (b : List Sm) | while_ (c : Ex) (b : List Sm)
  | brk | cnt | pass | bad

/-! ### what is called from outside -/
structure Cf where
  call : Str → List Val → M Val
  meth : Str → Str → List Val → M Val
  make : Str → List Val → M Val
  glob : Str → Option Val

def getVar (ρ : Env) (i : Nat) : Option Val := match ρ[i]? with
  | some (some v) => some v
  | _ => none
/-- a new list, as a cell or by value -/
def mkLst (cell : Bool) (xs : List Val) : M Val := match cell with
  | true => alloc (.lst xs)
  | false => pure (.lst xs)
def mkDct (cell : Bool) (kvs : List (Val × Val)) : M Val := match cell with
  | true => alloc (.dct kvs)
  | false => pure (.dct kvs)
def lenOk (n : Nat) : M Unit := guardM (decide (n ≤ sizeLine))
def intsOf : List Val → Option (List Int)
  | [] => some []
  | .int i :: r => (intsOf r).map (i :: ·)
  | _ :: _ => none
def blsOf : List Val → Option (List Bool)
  | [] => some []
  | .bl i :: r => (blsOf r).map (i :: ·)
  | _ :: _ => none
def strsOf : List Val → Option (List Str)
  | [] => some []
  | .str i :: r => (strsOf r).map (i :: ·)
  | _ :: _ => none
def insInt (x : Int) : List Int → List Int
  | [] => [x]
  | y :: r => if x ≤ y then x :: y :: r else y :: insInt x r
def sortInt : List Int → List Int
  | [] => []
  | x :: r => insInt x (sortInt r)
def maxL : Int → List Int → Int
  | m, [] => m
  | m, x :: r => maxL (if x > m then x else m) r
def minL : Int → List Int → Int
  | m, [] => m
  | m, x :: r => minL (if x < m then x else m) r
def bltVal (cell : Bool) (b : Bl) (vs : List Val) : M Val := match b, vs with
  | .len, [v] => look fun st => match v with
    | .str x => if x.length ≤ sizeLine then some (.int x.length) else none
    | v => match seqOf st v with
      | some xs => some (.int xs.length)
      | none => (dctOf st v).map fun kvs => .int kvs.length
  | .abs, [.int i] => pure (.int (if i < 0 then -i else i))
  | .int, [.int i] => pure (.int i)
  | .int, [.bl b] => pure (.int (if b then 1 else 0))
  | .max2, [.int i, .int j] => pure (.int (if j > i then j else i))
  | .min2, [.int i, .int j] => pure (.int (if j < i then j else i))
  | .list, [v] => do
    let xs ← look fun st => seqOf st v
    mkLst cell xs
  | .tuple, [v] => look fun st => match tupOf v with
      | some _ => some v
      | none => (lstOf st v).map .tup
  | .sum, [v] => look fun st => (lstOf st v).bind fun xs => (intsOf xs).map fun ns => .int ns.sum
  | .all, [v] => look fun st => (lstOf st v).bind fun xs => (blsOf xs).map fun ns => .bl (ns.all id)
  | .any, [v] => look fun st => (lstOf st v).bind fun xs => (blsOf xs).map fun ns => .bl (ns.any id)
  | .max1, [v] => look fun st => (lstOf st v).bind fun xs => (intsOf xs).bind fun ns => match ns with
      | [] => none
      | n :: r => some (.int (maxL n r))
  | .min1, [v] => look fun st => (lstOf st v).bind fun xs => (intsOf xs).bind fun ns => match ns with
      | [] => none
      | n :: r => some (.int (minL n r))
  | .sorted, [v] => do
    let xs ← look fun st => (lstOf st v).bind fun xs => (intsOf xs).map fun ns => (sortInt ns).map Val.int
    mkLst cell xs
  | _, _ => bad
/-- is a value of the built-in type -/
def isTy (st : Store) (v : Val) (T : Str) : Option Bool :=
  let is := fun (l : List Str) => some (l.contains T)
  match v with
  | .non => is []
  | .bl _ => is ["bool", "int"]
  | .int _ => is ["int"]
  | .str _ => is ["str"]
  | .tup _ => is ["tuple"]
  | .lst _ => is ["list"]
  | .dct _ => is ["dict"]
  | .ref i => match st[i]? with
    | some (.lst _) => is ["list"]
    | some (.dct _) => is ["dict"]
    | _ => none
  | _ => none
/-- the range's turns -/
def rngOf : List Val → Option (Int × Nat)
  | [.int j] => if decide (-(2 ^ 62) ≤ j) && (decide (j < 2 ^ 62) && decide (j.toNat ≤ sizeLine)) then some (0, j.toNat) else none
  | [.int i, .int j] => if decide (-(2 ^ 62) ≤ i) && (decide (i < 2 ^ 62) && (decide (-(2 ^ 62) ≤ j) && (decide (j < 2 ^ 62) && decide ((j - i).toNat ≤ sizeLine)))) then some (i, (j - i).toNat) else none
  | _ => none
def rngVals (lo : Int) (n : Nat) : List Val := (List.range n).map fun i => .int (lo + (i : Nat))
/-- what is walked: the items, and the cell that must stay as it is meanwhile -/
structure Walked where
  items : List Val
  cell : Option Nat
  back : Bool := false
def walkOf (v : Val) (st : Store) : Option Walked := match v with
  | .str x => some ⟨x.cps.toList.map fun c => .str ⟨#[c]⟩, none, false⟩
  | .ref i => (match st[i]? with
    | some (.lst xs) => if xs.length ≤ sizeLine then some ⟨xs, some i, false⟩ else none
    | _ => none)
  | v => (seqOf st v).bind fun xs => if xs.length ≤ sizeLine then some ⟨xs, none, false⟩ else none
def walkBack (v : Val) (st : Store) : Option Walked := match v with
  | .str _ => none
  | v => (walkOf v st).map fun w => ⟨w.items.reverse, w.cell, true⟩
/-- what a range walks -/
def rngWalk : List Val → Option Walked
  | [.int i, .int j, .int k] => if decide (k = -1) && (decide (-(2 ^ 62) ≤ i) && (decide (i < 2 ^ 62) && (decide (-(2 ^ 62) ≤ j) && (decide (j < 2 ^ 62) && decide ((i - j).toNat ≤ sizeLine)))))
      then some ⟨(List.range (i - j).toNat).map fun t => .int (i - (t : Nat)), none, false⟩ else none
  | vs => (rngOf vs).map fun r => ⟨rngVals r.1 r.2, none, false⟩
def Walked.still (w : Walked) (st : Store) : Bool := match w.cell with
  | none => true
  | some i => decide (st[i]? = some (.lst (if w.back then w.items.reverse else w.items)))
def stillM (w : Walked) : M Unit := fun st => match w.still st with
  | true => .ok () st
  | false => .bad
def setAll : List Nat → List Val → Env → Option Env
  | [], [], ρ => some ρ
  | i :: is, v :: vs, ρ => setAll is vs (ρ.set i (some v))
  | _, _, _ => none
def bindTg (t : Tg) (v : Val) (ρ : Env) : Option Env := match t with
  | .nm i => some (ρ.set i (some v))
  | .nms is => (tupOf v).bind fun xs => setAll is xs ρ
def tgSlots : Tg → List Nat
  | .nm i => [i]
  | .nms is => is
def wipeE (ρ : Env) : List Nat → Env
  | [] => ρ
  | v :: vs => (wipeE ρ vs).set v none
/-- the loop of a comprehension: what is gathered -/
def compLoop (w : Walked) (t : Tg) (ρ : Env) (tests : Env → M Bool) (body : Env → M (List Val)) : List Val → M (List Val)
  | [] => do
    stillM w
    pure []
  | x :: xs => do
    stillM w
    let ρ' ← lift (bindTg t x ρ)
    let b ← tests ρ'
    match b with
    | true => do
      let ys ← body ρ'
      let zs ← compLoop w t ρ tests body xs
      pure (ys ++ zs)
    | false => compLoop w t ρ tests body xs
def pairUp : List Val → Option (List (Val × Val))
  | [] => some []
  | [_] => none
  | k :: v :: r => (pairUp r).map ((k, v) :: ·)
def mergeKv (kvs more : List (Val × Val)) : List (Val × Val) := more.foldl (fun acc kv => putKv acc kv.1 kv.2) kvs
/-- the kind of what a method is called on -/
def bmKind (m : Bm) (v : Val) (st : Store) : Bool := match m with
  | .get1 => (match v with
    | .kdct _ => true
    | _ => (dctOf st v).isSome)
  | .get2 => (match v with
    | .kdct _ => true
    | _ => (dctOf st v).isSome)
  | _ => (lstOf st v).isSome
/-- a method of a built-in type -/
def bmVal (m : Bm) (o : Val) (vs : List Val) : M Val := match m, vs with
  | .append, [y] => (match o with
    | .ref i => (do
      let xs ← look fun st => match st[i]? with
        | some (.lst xs) => if xs.length < sizeLine then some xs else none
        | _ => none
      write i (.lst (xs ++ [y]))
      pure .non)
    | _ => bad)
  | .pop, [] => (match o with
    | .ref i => (do
      let xs ← look fun st => match st[i]? with
        | some (.lst xs) => some xs
        | _ => none
      let y ← lift xs[xs.length - 1]?
      write i (.lst xs.dropLast)
      pure y)
    | _ => bad)
  | .popAt, [.int k] => (match o with
    | .ref i => (do
      let xs ← look fun st => match st[i]? with
        | some (.lst xs) => some xs
        | _ => none
      guardM (decide (-(2 ^ 63) ≤ k) && decide (k < 2 ^ 63))
      let j ← lift (seqIndex? k xs.length)
      let y ← lift xs[j]?
      write i (.lst (xs.eraseIdx j))
      pure y)
    | _ => bad)
  | .extend, [y] => (match o with
    | .ref i => (do
      let xs ← look fun st => match st[i]? with
        | some (.lst xs) => some xs
        | _ => none
      let ys ← look fun st => ownLst st y
      lenOk (xs.length + ys.length)
      write i (.lst (xs ++ ys))
      pure .non)
    | _ => bad)
  | .clear, [] => (match o with
    | .ref i => (do
      let _ ← look fun st => match st[i]? with
        | some (.lst xs) => some xs
        | _ => none
      write i (.lst [])
      pure .non)
    | _ => bad)
  | .get1, [k] => (match o with
    | .kdct kvs => (match k with
      | .str s => pure ((getF kvs s).getD .non)
      | _ => bad)
    | _ => look fun st => if keyOk k then (dctOf st o).map fun kvs => (getK kvs k).getD .non else none)
  | .get2, [k, d] => (match o with
    | .kdct kvs => (match k with
      | .str s => pure ((getF kvs s).getD d)
      | _ => bad)
    | _ => look fun st => if keyOk k then (dctOf st o).map fun kvs => (getK kvs k).getD d else none)
  | _, _ => bad
def cutM (cell : Bool) : Cut → M Val
  | .v v => pure v
  | .l xs => mkLst cell xs
section
variable (c : Cf)
mutual
def evalE : Ex → Env → M Val
  | .var i, ρ => lift (getVar ρ i)
  | .cst v, _ => lift (if flat v then some v else none)
  | .bad, _ => Mn.bad
  | .glo x, _ => lift (c.glob x)
  | .tup es, ρ => do
    let vs ← evalL es ρ
    lenOk vs.length
    pure (.tup vs)
  | .lst cell es, ρ => do
    let vs ← evalL es ρ
    lenOk vs.length
    mkLst cell vs
  | .dct cell es, ρ => do
    let vs ← evalL es ρ
    let kvs ← lift (pairUp vs)
    guardM (kvs.all (fun q => isKey q.1) && decide (kvs.length ≤ 15))
    mkDct cell (mergeKv [] kvs)
  | .bin o a b, ρ => do
    let x ← evalE a ρ
    let y ← evalE b ρ
    look (binop o x y)
  | .neg a, ρ => do
    let x ← evalE a ρ
    match x with
    | .int i => pure (.int (-i))
    | _ => bad
  | .not a, ρ => do
    let x ← evalE a ρ
    let b ← look (truthy x)
    pure (.bl !b)
  | .cmp o a b, ρ => do
    let x ← evalE a ρ
    let y ← evalE b ρ
    let r ← look (cmpVal o x y)
    pure (.bl r)
  | .chain o p a b d, ρ => do
    let x ← evalE a ρ
    let y ← evalE b ρ
    let r ← look (cmpVal o x y)
    match r with
    | true => do
      let z ← evalE d ρ
      let r ← look (cmpVal p y z)
      pure (.bl r)
    | false => pure (.bl false)
  | .and a b, ρ => do
    let x ← evalE a ρ
    let t ← look (truthy x)
    match t with
    | true => evalE b ρ
    | false => pure x
  | .or a b, ρ => do
    let x ← evalE a ρ
    let t ← look (truthy x)
    match t with
    | true => pure x
    | false => evalE b ρ
  | .ite d a b, ρ => do
    let x ← evalE d ρ
    let t ← look (truthy x)
    match t with
    | true => evalE a ρ
    | false => evalE b ρ
  | .idx a i, ρ => do
    let x ← evalE a ρ
    let y ← evalE i ρ
    look (idxVal x y)
  | .slc cell a lo hi, ρ => do
    let x ← evalE a ρ
    let l ← evalO lo ρ
    let h ← evalO hi ρ
    let l ← lift (intO l)
    let h ← lift (intO h)
    let r ← look (slcVal x l h)
    cutM cell r
  | .rev cell a, ρ => do
    let x ← evalE a ρ
    let xs ← look fun st => lstOf st x
    mkLst cell xs.reverse
  | .fld e f, ρ => do
    let x ← evalE e ρ
    look fun st => (insOf st x).bind fun r => getF r.2.2 f
  | .call f es, ρ => do
    let vs ← evalL es ρ
    c.call f vs
  | .make C es, ρ => do
    let vs ← evalL es ρ
    c.make C vs
  | .meth e m es, ρ => do
    let x ← evalE e ρ
    let r ← look fun st => insOf st x
    guardM (getF r.2.2 m).isNone
    let vs ← evalL es ρ
    c.meth r.2.1 m (x :: vs)
  | .blt cell b es, ρ => do
    let vs ← evalL es ρ
    bltVal cell b vs
  | .lrng cell es, ρ => do
    let vs ← evalL es ρ
    let r ← lift (rngOf vs)
    mkLst cell (rngVals r.1 r.2)
  | .bm m e es, ρ => do
    let x ← evalE e ρ
    look fun st => if bmKind m x st then some () else none
    let vs ← evalL es ρ
    bmVal m x vs
  | .isi e T, ρ => do
    let x ← evalE e ρ
    let b ← look fun st => isTy st x T
    pure (.bl b)
  | .comp cell elt t it ifs, ρ => do
    let w ← evalI it ρ
    let ys ← compLoop w t (wipeE ρ (tgSlots t)) (evalT ifs) (fun ρ' => do let y ← evalE elt ρ'; pure [y]) w.items
    lenOk ys.length
    mkLst cell ys
  | .comp2 cell elt t it ifs t1 it1 ifs1, ρ => do
    let w ← evalI it ρ
    let ys ← compLoop w t (wipeE ρ (tgSlots t ++ tgSlots t1)) (evalT ifs) (fun ρ' => do
      let w1 ← evalI it1 ρ'
      compLoop w1 t1 (wipeE ρ' (tgSlots t1)) (evalT ifs1) (fun ρ'' => do let y ← evalE elt ρ''; pure [y]) w1.items) w.items
    lenOk ys.length
    mkLst cell ys
def evalL : List Ex → Env → M (List Val)
  | [], _ => pure []
  | e :: es, ρ => do
    let v ← evalE e ρ
    let vs ← evalL es ρ
    pure (v :: vs)
def evalO : Option Ex → Env → M (Option Val)
  | none, _ => pure none
  | some e, ρ => do
    let v ← evalE e ρ
    pure (some v)
/-- all tests hold -/
def evalT : List Ex → Env → M Bool
  | [], _ => pure true
  | e :: es, ρ => do
    let v ← evalE e ρ
    let t ← look (truthy v)
    match t with
    | true => evalT es ρ
    | false => pure false
def evalI : It → Env → M Walked
  | .of e, ρ => do
    let v ← evalE e ρ
    look (walkOf v)
  | .rng es, ρ => do
    let vs ← evalL es ρ
    lift (rngWalk vs)
  | .rev e, ρ => do
    let v ← evalE e ρ
    look (walkBack v)
end
end

/-! ### statements -/
inductive Flow where
  | nxt (ρ : Env) | ret (v : Val) | brk (ρ : Env) | cnt (ρ : Env)
/-- a op= b: an int, a text; a cell that is a list grows -/
def augVal (o : Op) (a b : Val) : M Val := match a, b with
  | .int i, .int j => lift ((binInt o i j).map .int)
  | .str x, .str y => lift (if o = .add ∧ x.length + y.length ≤ sizeLine then some (.str (x ++ y)) else none)
  | .ref i, b => (match o with
    | .add => (do
      let xs ← look fun st => match st[i]? with
        | some (.lst xs) => some xs
        | _ => none
      let ys ← look fun st => ownLst st b
      lenOk (xs.length + ys.length)
      write i (.lst (xs ++ ys))
      pure (.ref i))
    | _ => bad)
  | _, _ => bad
def setFld (o : Val) (f : Str) (v : Val) : M Unit := do
  let r ← look fun st => insOf st o
  guardM (decide (r.2.2.length < 1000))
  write r.1 (.ins r.2.1 (putFv f v r.2.2))
/-- o[i] of a cell -/
def cellAt (o i : Val) (st : Store) : Option Val := match o with
  | .ref a => (match st[a]? with
    | some (.lst xs) => (match i with
      | .int k => L2.atI xs k
      | _ => none)
    | some (.dct kvs) => if keyOk i then getK kvs i else none
    | _ => none)
  | _ => none
/-- o[i] = v -/
def setIdx (o i v : Val) : M Unit := match o with
  | .ref a => (do
    let ob ← look fun st => st[a]?
    match ob with
    | .lst xs => (match i with
      | .int k => (do
        let j ← lift (ixOf xs.length k)
        write a (.lst (xs.set j v)))
      | _ => bad)
    | .dct kvs => (do
      guardM (keyOk i && decide (kvs.length < sizeLine))
      write a (.dct (putKv kvs i v)))
    | _ => bad)
  | _ => bad
section
variable (c : Cf)
mutual
def assignT : Tgt → Val → Env → M Env
  | .nm i, v, ρ => pure (ρ.set i (some v))
  | .tup ts, v, ρ => do
    let xs ← look fun st => seqOf st v
    assignTs ts xs ρ
  | .idx o i, v, ρ => do
    let x ← evalE c o ρ
    let k ← evalE c i ρ
    setIdx x k v
    pure ρ
  | .fld o f, v, ρ => do
    let x ← evalE c o ρ
    setFld x f v
    pure ρ
def assignTs : List Tgt → List Val → Env → M Env
  | [], vs, ρ => (match vs with
    | [] => pure ρ
    | _ :: _ => bad)
  | t :: ts, vs, ρ => (match vs with
    | v :: vs => do
      let ρ' ← assignT t v ρ
      assignTs ts vs ρ'
    | [] => bad)
end
def augT (t : Tgt) (o : Op) (e : Ex) (ρ : Env) : M Env := match t with
  | .nm i => do
    let x ← lift (getVar ρ i)
    let y ← evalE c e ρ
    let z ← augVal o x y
    pure (ρ.set i (some z))
  | .idx a i => do
    let p ← evalE c a ρ
    let k ← evalE c i ρ
    let x ← look (cellAt p k)
    let y ← evalE c e ρ
    let z ← augVal o x y
    setIdx p k z
    pure ρ
  | .fld a f => do
    let p ← evalE c a ρ
    let r ← look fun st => insOf st p
    let x ← lift (getF r.2.2 f)
    let y ← evalE c e ρ
    let z ← augVal o x y
    let r2 ← look fun st => insOf st p
    guardM (decide (r2.2.1 = r.2.1))
    setFld p f z
    pure ρ
  | .tup _ => bad
def testE (e : Ex) (ρ : Env) : M Bool := do
  let v ← evalE c e ρ
  look (truthy v)
/-- a for's turns -/
def forLoop (w : Walked) (t : Tg) (body : Env → M Flow) : List Val → Env → M Flow
  | [], ρ => do
    stillM w
    pure (.nxt ρ)
  | x :: xs, ρ => do
    stillM w
    let ρ' ← lift (bindTg t x ρ)
    let f ← body ρ'
    match f with
    | .nxt ρ => forLoop w t body xs ρ
    | .cnt ρ => forLoop w t body xs ρ
    | .brk ρ => pure (.nxt ρ)
    | .ret v => pure (.ret v)
def whileLoop (test : Env → M Bool) (body : Env → M Flow) : Nat → Env → M Flow
  | 0, _ => bad
  | n + 1, ρ => do
    let b ← test ρ
    match b with
    | true => do
      let f ← body ρ
      match f with
      | .nxt ρ => whileLoop test body n ρ
      | .cnt ρ => whileLoop test body n ρ
      | .brk ρ => pure (.nxt ρ)
      | .ret v => pure (.ret v)
    | false => pure (.nxt ρ)
/-- more turns than any while takes here -/
def manyTurns : Nat := 2 ^ 40
mutual
def execS : Sm → Env → M Flow
  | .asg t e, ρ => do
    let v ← evalE c e ρ
    let ρ' ← assignT c t v ρ
    pure (.nxt ρ')
  | .aug t o e, ρ => do
    let ρ' ← augT c t o e ρ
    pure (.nxt ρ')
  | .expr e, ρ => do
    let _ ← evalE c e ρ
    pure (.nxt ρ)
  | .ret e, ρ => do
    let v ← evalE c e ρ
    pure (.ret v)
  | .retN, _ => pure (.ret .non)
  | .ite t a b, ρ => do
    let k ← testE c t ρ
    match k with
    | true => execB a ρ
    | false => execB b ρ
  | .for_ t it b, ρ => do
    let w ← evalI c it ρ
    forLoop w t (execB b) w.items ρ
  | .while_ t b, ρ => whileLoop (testE c t) (execB b) manyTurns ρ
  | .brk, ρ => pure (.brk ρ)
  | .cnt, ρ => pure (.cnt ρ)
  | .pass, ρ => pure (.nxt ρ)
  | .bad, _ => Mn.bad
def execB : List Sm → Env → M Flow
  | [], ρ => pure (.nxt ρ)
  | s :: r, ρ => do
    let f ← execS s ρ
    match f with
    | .nxt ρ => execB r ρ
    | .ret v => pure (.ret v)
    | .brk ρ => pure (.brk ρ)
    | .cnt ρ => pure (.cnt ρ)
end
end

/-! ### defs -/
structure Fn where
  np : Nat
  n : Nat
  dfl : List Val := []
  body : List Sm
  /-- what is new at the end is no cell any more -/
  drop : Bool := true
mutual
/-- no cell from k on -/
def old (k : Nat) : Val → Bool
  | .ref i => decide (i < k)
  | .tup xs => oldL k xs
  | .lst xs => oldL k xs
  | .dct kvs => oldD k kvs
  | .ktup xs => oldL k xs
  | .klst xs => oldL k xs
  | .kdct kvs => oldK k kvs
  | _ => true
def oldK (k : Nat) : List (Str × Val) → Bool
  | [] => true
  | (_, x) :: xs => old k x && oldK k xs
def oldL (k : Nat) : List Val → Bool
  | [] => true
  | x :: xs => old k x && oldL k xs
def oldD (k : Nat) : List (Val × Val) → Bool
  | [] => true
  | (_, x) :: xs => old k x && oldD k xs
end
def oldF (k : Nat) : List (Str × Val) → Bool
  | [] => true
  | (_, x) :: xs => old k x && oldF k xs
def oldO (k : Nat) : Obj → Bool
  | .lst xs => oldL k xs
  | .dct kvs => oldD k kvs
  | .ins _ fs => oldF k fs
def mapO {α β : Type} (f : α → Option β) : List α → Option (List β)
  | [] => some []
  | x :: xs => match f x with
    | some y => (mapO f xs).map (y :: ·)
    | none => none
/-- the cells from k on are read, by value -/
def frz (k : Nat) (st : Store) : Nat → Val → Option Val
  | 0, v => if old k v then some v else none
  | n + 1, v => if old k v then some v else match v with
    | .ref i => (match st[i]? with
      | some (.lst xs) => (mapO (frz k st n) xs).map .lst
      | some (.dct kvs) => (mapO (fun q => (frz k st n q.2).map fun y => (q.1, y)) kvs).map .dct
      | _ => none)
    | .tup xs => (mapO (frz k st n) xs).map .tup
    | .lst xs => (mapO (frz k st n) xs).map .lst
    | .dct kvs => (mapO (fun q => (frz k st n q.2).map fun y => (q.1, y)) kvs).map .dct
    | _ => none
def leave (k : Nat) (v : Val) : M Val := fun st => match frz k st 20 v, (st.take k).all (oldO k) with
  | some v', true => .ok v' (st.take k)
  | _, _ => .bad
abbrev Key := Str × Str
abbrev Defs := List (Key × Fn)
def findFn (D : Defs) (C f : Str) : Option Fn := match D with
  | [] => none
  | ((C', f'), F) :: r => if C = C' ∧ f = f' then some F else findFn r C f
def startEnv (n : Nat) (vs : List Val) : Env := vs.map some ++ List.replicate (n - vs.length) none
/-- the arguments, the defaults behind them -/
def fullArgs (F : Fn) (vs : List Val) : Option (List Val) :=
  if vs.length = F.np then some vs else if vs.length + F.dfl.length = F.np then some (vs ++ F.dfl) else none
def runBody (c : Cf) (F : Fn) (vs : List Val) : M Val := fun st => match fullArgs F vs with
  | none => .bad
  | some vs => match execB c F.body (startEnv F.n vs) st with
    | .ok (.nxt _) st' => (if F.drop then leave st.length .non else pure .non) st'
    | .ok (.ret v) st' => (if F.drop then leave st.length v else pure v) st'
    | .ok _ _ => .bad
    | .exc C v st' => .exc C v st'
    | .bad => .bad
def bot : Cf := ⟨fun _ _ => bad, fun _ _ _ => bad, fun _ _ => bad, fun _ => none⟩
section
variable (D : Defs) (G : Str → Option Val)
/-- what a call is worth, so many calls deep -/
def callFn : Nat → Str → Str → List Val → M Val
  | 0, _, _, _ => bad
  | n + 1, C, f, vs => match findFn D C f with
    | none => bad
    | some F => runBody
        { call := fun f vs => callFn n (Str.ofString "") f vs
          meth := fun C m vs => if C = Str.ofString "" ∨ m = "__init__" then bad else callFn n C m vs
          make := fun C vs => if C = Str.ofString "" then bad else (do
            let o ← alloc (.ins C [])
            let r ← (match n with
              | 0 => bad
              | n + 1 => callFn n C "__init__" (o :: vs))
            guardM (decide (r = .non))
            pure o)
          glob := G } F vs
end
end Mn

end

section
set_option maxHeartbeats 200000
/-! Mn: how values and stores stand in the abstract heap. -/
namespace Mn
open PySem PySem.Spec PyProof.Rows L2

/-- what is fixed through a law -/
structure Gm where
  K : PySem.W.Frag
  w : World
  clsA : Str → Option Addr
  fnA : Str → Option Addr

def keyV : Val → Option L2.Key
  | .int i => some (.inl i)
  | .str x => some (.inr x)
  | _ => none
theorem keyV_some {v : Val} (h : isKey v = true) : ∃ k, keyV v = some k := by
  cases v <;> first | exact ⟨_, rfl⟩ | exact absurd h Bool.false_ne_true
theorem keyV_inj {v u : Val} {k : L2.Key} (h : keyV v = some k) (h' : keyV u = some k) : v = u := by
  cases v <;> cases u <;> simp_all [keyV]
  all_goals
    rw [← h'] at h
    first | exact Sum.inl.inj h | exact Sum.inr.inj h | cases h
/-- the cells' addresses; the hidden ones: lists that a comprehension is gathering -/
structure Fm where
  cells : List Addr
  hid : List Addr
instance : Membership Addr Fm := ⟨fun φ a => a ∈ φ.cells ∨ a ∈ φ.hid⟩
theorem Fm.not_mem {φ : Fm} {a : Addr} (h : a ∉ φ) : a ∉ φ.cells ∧ a ∉ φ.hid := ⟨fun m => h (.inl m), fun m => h (.inr m)⟩
theorem Fm.not_mem' {φ : Fm} {a : Addr} (h : a ∉ φ.cells) (h' : a ∉ φ.hid) : a ∉ φ := fun m => m.elim h h'
def Fm.push (φ : Fm) (p : Addr) : Fm := ⟨φ.cells ++ [p], φ.hid⟩
def Fm.hide (φ : Fm) (p : Addr) : Fm := ⟨φ.cells, p :: φ.hid⟩
section
variable (g : Gm)
mutual
def Rel (φ : Fm) (H : Hp) : Val → V → Prop
  | .non, x => x = .non
  | .bl b, x => x = .bl b
  | .int i, x => x = .int i
  | .str s, x => x = .str s
  | .tup xs, x => ∃ a vs, x = .ref a ∧ a ∉ φ ∧ H a = some (.tup vs) ∧ RelL φ H xs vs
  | .lst xs, x => ∃ a vs, x = .ref a ∧ a ∉ φ ∧ H a = some (.lst vs) ∧ RelL φ H xs vs
  | .dct kvs, x => ∃ a ws, x = .ref a ∧ a ∉ φ ∧ H a = some (.dK ws) ∧ RelD φ H kvs ws
  | .ktup xs, x => ∃ a vs, x = .ref a ∧ (∀ H', SqT g.K H' a vs) ∧ RelL φ H xs vs
  | .klst xs, x => ∃ a vs, x = .ref a ∧ ((∀ H', SqL g.K H' a vs) ∨ (a ∉ φ ∧ ∃ o, H a = some (.frz o (.lst vs)))) ∧ RelL φ H xs vs
  | .kdct kvs, x => ∃ a, x = .ref a ∧ (∃ es n, KDict g.K g.w a es n) ∧ (∀ s : Str, getF kvs s = none → PySem.W.nsIn g.K a s = some none) ∧ RelK φ H a kvs
  | .ref i, x => ∃ a, x = .ref a ∧ φ.cells[i]? = some a
  | .fn s, x => ∃ a, x = .ref a ∧ g.fnA s = some a
def RelL (φ : Fm) (H : Hp) : List Val → List V → Prop
  | [], vs => vs = []
  | v :: r, vs => ∃ y s, vs = y :: s ∧ Rel φ H v y ∧ RelL φ H r s
def RelD (φ : Fm) (H : Hp) : List (Val × Val) → List (L2.Key × V) → Prop
  | [], ws => ws = []
  | (k, v) :: r, ws => ∃ k' y s, ws = (k', y) :: s ∧ keyV k = some k' ∧ Rel φ H v y ∧ RelD φ H r s
def RelK (φ : Fm) (H : Hp) (a : Addr) : List (Str × Val) → Prop
  | [] => True
  | (s, v) :: r => (∃ u y, PySem.W.nsIn g.K a s = some (some u) ∧ RelV y u ∧ Rel φ H v y) ∧ RelK φ H a r
end
def RelF (φ : Fm) (H : Hp) : List (Str × Val) → List (Str × V) → Prop
  | [], ws => ws = []
  | (k, v) :: r, ws => ∃ y s, ws = (k, y) :: s ∧ Rel g φ H v y ∧ RelF φ H r s
/-- what stands at a cell -/
def ObjR (φ : Fm) (H : Hp) (a : Addr) : Obj → Prop
  | .lst xs => ∃ vs, H a = some (.lst vs) ∧ RelL g φ H xs vs
  | .dct kvs => ∃ ws, H a = some (.dK ws) ∧ RelD g φ H kvs ws
  | .ins C fs => ∃ A dx ws, g.clsA C = some A ∧ H a = some (.ins A dx ws) ∧ RelF g φ H fs ws
structure RelSt (φ : Fm) (st : Store) (H : Hp) : Prop where
  len : φ.cells.length = st.length
  nd : φ.cells.Nodup
  at_ : ∀ (i : Nat) (a : Addr) (o : Obj), φ.cells[i]? = some a → st[i]? = some o → ObjR g φ H a o
  dis : ∀ a ∈ φ.hid, a ∉ φ.cells
  hs : ∀ a ∈ φ.hid, ∃ u, H a = some u
def RelEnv (φ : Fm) (H : Hp) (ρ : Env) (σ : L2.St) : Prop := ρ.length = σ.length ∧ ∀ (i : Nat) (v : Val), ρ[i]? = some (some v) → ∃ x, σ[i]? = some (some x) ∧ Rel g φ H v x
end

/-- from one heap to a later one: new cells are new, what is no cell stays -/
structure Step (φ φ' : Fm) (H H' : Hp) : Prop where
  pre : φ.cells <+: φ'.cells
  hid : φ'.hid = φ.hid
  new : ∀ a ∈ φ'.cells, a ∉ φ.cells → H a = none
  keep : ∀ b o, H b = some o → b ∉ φ.cells → H' b = some o
/-- what values ask -/
structure Kp (φ φ' : Fm) (H H' : Hp) : Prop where
  pre : φ.cells <+: φ'.cells
  keep : ∀ b o, H b = some o → b ∉ φ → H' b = some o
  out : ∀ b o, H b = some o → b ∉ φ → b ∉ φ'

theorem Step.refl (φ : Fm) (H : Hp) : Step φ φ H H := ⟨List.prefix_refl _, rfl, fun a h h' => absurd h h', fun _ _ h _ => h⟩
theorem Step.out {φ φ' : Fm} {H H' : Hp} (s : Step φ φ' H H') {a : Addr} {o : HO} (h : H a = some o) (n : a ∉ φ.cells) : a ∉ φ'.cells := fun m => by
  rw [s.new a m n] at h; cases h
theorem Step.kp {φ φ' : Fm} {H H' : Hp} (s : Step φ φ' H H') : Kp φ φ' H H' := ⟨s.pre, fun b o h n => s.keep b o h (Fm.not_mem n).1, fun b o h n => Fm.not_mem' (s.out h (Fm.not_mem n).1) (by rw [s.hid]; exact (Fm.not_mem n).2)⟩
theorem Step.trans {φ φ1 φ2 : Fm} {H H1 H2 : Hp} (s : Step φ φ1 H H1) (t : Step φ1 φ2 H1 H2) : Step φ φ2 H H2 := by
  refine ⟨s.pre.trans t.pre, t.hid.trans s.hid, fun a h n => ?_, fun b o h n => t.keep b o (s.keep b o h n) (s.out h n)⟩
  by_cases m : a ∈ φ1.cells
  · exact s.new a m n
  · cases e : H a with
    | none => rfl
    | some o =>
      have := s.keep a o e n
      rw [t.new a h m] at this; cases this
theorem Kp.trans {φ φ1 φ2 : Fm} {H H1 H2 : Hp} (s : Kp φ φ1 H H1) (t : Kp φ1 φ2 H1 H2) : Kp φ φ2 H H2 :=
  ⟨s.pre.trans t.pre, fun b o h n => t.keep b o (s.keep b o h n) (s.out b o h n), fun b o h n => t.out b o (s.keep b o h n) (s.out b o h n)⟩
theorem Kp.get {φ φ' : Fm} {H H' : Hp} (s : Kp φ φ' H H') {i : Nat} {a : Addr} (h : φ.cells[i]? = some a) : φ'.cells[i]? = some a := by
  obtain ⟨t, e⟩ := s.pre
  rw [← e, List.getElem?_append_left (List.getElem?_eq_some_iff.mp h).1]; exact h
theorem Step.get {φ φ' : Fm} {H H' : Hp} (s : Step φ φ' H H') {i : Nat} {a : Addr} (h : φ.cells[i]? = some a) : φ'.cells[i]? = some a := s.kp.get h
/-- a new object that is no cell -/
theorem Step.add {φ : Fm} {H : Hp} {p : Addr} {o : HO} (h : H p = none) : Step φ φ H (upd H p o) := ⟨List.prefix_refl _, rfl, fun a h h' => absurd h h', fun b u hb _ => by rw [upd_ne (ne_of_none hb h)]; exact hb⟩
/-- a new cell -/
theorem Step.cell {φ : Fm} {H : Hp} {p : Addr} {o : HO} (h : H p = none) : Step φ (φ.push p) H (upd H p o) := by
  refine ⟨List.prefix_append _ _, rfl, fun a m n => ?_, fun b u hb _ => by rw [upd_ne (ne_of_none hb h)]; exact hb⟩
  rcases List.mem_append.mp m with m | m
  · exact absurd m n
  · rw [List.mem_singleton.mp m]; exact h
/-- a cell is written -/
theorem Step.put {φ : Fm} {H : Hp} {p : Addr} {o : HO} (h : p ∈ φ.cells) : Step φ φ H (upd H p o) := ⟨List.prefix_refl _, rfl, fun a h h' => absurd h h', fun b u hb n => by rw [upd_ne (fun e => n (by rw [e]; exact h))]; exact hb⟩
/-- a hidden one comes -/
theorem Kp.hide {φ : Fm} {H : Hp} {p : Addr} {o : HO} (h : H p = none) : Kp φ (φ.hide p) H (upd H p o) := by
  refine ⟨List.prefix_refl _, fun b u hb _ => by rw [upd_ne (ne_of_none hb h)]; exact hb, fun b u hb n => Fm.not_mem' (Fm.not_mem n).1 fun m => ?_⟩
  rcases List.mem_cons.mp m with m | m
  · subst m; rw [h] at hb; cases hb
  · exact (Fm.not_mem n).2 m
/-- a hidden one is written -/
theorem Kp.put {φ : Fm} {H : Hp} {p : Addr} {o : HO} (h : p ∈ φ.hid) : Kp φ φ H (upd H p o) := ⟨List.prefix_refl _, fun b u hb n => by rw [upd_ne (fun e => n (.inr (by rw [e]; exact h)))]; exact hb, fun _ _ _ n => n⟩
/-- a hidden one is shown -/
theorem Kp.show {φ : Fm} {H : Hp} {p : Addr} : Kp (φ.hide p) φ H H := ⟨List.prefix_refl _, fun _ _ h _ => h, fun _ _ _ n => Fm.not_mem' (Fm.not_mem n).1 fun m => (Fm.not_mem n).2 (List.mem_cons_of_mem _ m)⟩

section
variable {g : Gm} {φ φ' : Fm} {H H' : Hp}
mutual
theorem Rel.monoK (s : Kp φ φ' H H') : ∀ (v : Val) (x : V), Rel g φ H v x → Rel g φ' H' v x
  | .non, x, h => by simpa [Rel] using h
  | .bl b, x, h => by simpa [Rel] using h
  | .int i, x, h => by simpa [Rel] using h
  | .str z, x, h => by simpa [Rel] using h
  | .tup xs, x, h => by
    simp only [Rel] at h ⊢
    obtain ⟨a, vs, e, n, ha, r⟩ := h
    exact ⟨a, vs, e, s.out _ _ ha n, s.keep _ _ ha n, RelL.monoK s xs vs r⟩
  | .lst xs, x, h => by
    simp only [Rel] at h ⊢
    obtain ⟨a, vs, e, n, ha, r⟩ := h
    exact ⟨a, vs, e, s.out _ _ ha n, s.keep _ _ ha n, RelL.monoK s xs vs r⟩
  | .dct kvs, x, h => by
    simp only [Rel] at h ⊢
    obtain ⟨a, vs, e, n, ha, r⟩ := h
    exact ⟨a, vs, e, s.out _ _ ha n, s.keep _ _ ha n, RelD.monoK s kvs vs r⟩
  | .ktup xs, x, h => by
    simp only [Rel] at h ⊢
    obtain ⟨a, vs, e, hk, r⟩ := h
    exact ⟨a, vs, e, hk, RelL.monoK s xs vs r⟩
  | .klst xs, x, h => by
    simp only [Rel] at h ⊢
    obtain ⟨a, vs, e, hk, r⟩ := h
    refine ⟨a, vs, e, ?_, RelL.monoK s xs vs r⟩
    rcases hk with hk | ⟨n, o, ho⟩
    · exact .inl hk
    · exact .inr ⟨s.out _ _ ho n, o, s.keep _ _ ho n⟩
  | .kdct kvs, x, h => by
    simp only [Rel] at h ⊢
    obtain ⟨a, e, hk, hn, r⟩ := h
    exact ⟨a, e, hk, hn, RelK.monoK s a kvs r⟩
  | .ref i, x, h => by
    simp only [Rel] at h ⊢
    obtain ⟨a, e, hi⟩ := h
    exact ⟨a, e, s.get hi⟩
  | .fn z, x, h => by simpa [Rel] using h
theorem RelL.monoK (s : Kp φ φ' H H') : ∀ (v : List Val) (x : List V), RelL g φ H v x → RelL g φ' H' v x
  | [], x, h => by simpa [RelL] using h
  | v :: r, x, h => by
    simp only [RelL] at h ⊢
    obtain ⟨y, t, e, h1, h2⟩ := h
    exact ⟨y, t, e, Rel.monoK s v y h1, RelL.monoK s r t h2⟩
theorem RelD.monoK (s : Kp φ φ' H H') : ∀ (v : List (Val × Val)) (x : List (L2.Key × V)), RelD g φ H v x → RelD g φ' H' v x
  | [], x, h => by simpa [RelD] using h
  | (k, v) :: r, x, h => by
    simp only [RelD] at h ⊢
    obtain ⟨k', y, t, e, hk, h1, h2⟩ := h
    exact ⟨k', y, t, e, hk, Rel.monoK s v y h1, RelD.monoK s r t h2⟩
theorem RelK.monoK (s : Kp φ φ' H H') (a : Addr) : ∀ (v : List (Str × Val)), RelK g φ H a v → RelK g φ' H' a v
  | [], h => by simpa [RelK] using h
  | (k, v) :: r, h => by
    simp only [RelK] at h ⊢
    obtain ⟨⟨u, y, h0, h1, h2⟩, h3⟩ := h
    exact ⟨⟨u, y, h0, h1, Rel.monoK s v y h2⟩, RelK.monoK s a r h3⟩
end
theorem RelF.monoK (s : Kp φ φ' H H') : ∀ (v : List (Str × Val)) (x : List (Str × V)), RelF g φ H v x → RelF g φ' H' v x
  | [], x, h => by simpa [RelF] using h
  | (k, v) :: r, x, h => by
    simp only [RelF] at h ⊢
    obtain ⟨y, t, e, h1, h2⟩ := h
    exact ⟨y, t, e, Rel.monoK s v y h1, RelF.monoK s r t h2⟩
theorem RelEnv.monoK (s : Kp φ φ' H H') {ρ : Env} {σ : L2.St} (h : RelEnv g φ H ρ σ) : RelEnv g φ' H' ρ σ :=
  ⟨h.1, fun i v e => let ⟨x, h1, h2⟩ := h.2 i v e; ⟨x, h1, Rel.monoK s v x h2⟩⟩
theorem Rel.mono (s : Step φ φ' H H') (v : Val) (x : V) (h : Rel g φ H v x) : Rel g φ' H' v x := Rel.monoK s.kp v x h
theorem RelL.mono (s : Step φ φ' H H') (v : List Val) (x : List V) (h : RelL g φ H v x) : RelL g φ' H' v x := RelL.monoK s.kp v x h
theorem RelD.mono (s : Step φ φ' H H') (v : List (Val × Val)) (x : List (L2.Key × V)) (h : RelD g φ H v x) : RelD g φ' H' v x := RelD.monoK s.kp v x h
theorem RelF.mono (s : Step φ φ' H H') (v : List (Str × Val)) (x : List (Str × V)) (h : RelF g φ H v x) : RelF g φ' H' v x := RelF.monoK s.kp v x h
theorem RelEnv.mono (s : Step φ φ' H H') {ρ : Env} {σ : L2.St} (h : RelEnv g φ H ρ σ) : RelEnv g φ' H' ρ σ := RelEnv.monoK s.kp h
theorem RelEnv.get {ρ : Env} {σ : L2.St} (h : RelEnv g φ H ρ σ) {i : Nat} {v : Val} (e : getVar ρ i = some v) : ∃ x, σ[i]? = some (some x) ∧ Rel g φ H v x := by
  unfold getVar at e
  split at e
  · rename_i u q
    cases e
    exact h.2 i _ q
  · cases e
theorem RelEnv.set {ρ : Env} {σ : L2.St} (h : RelEnv g φ H ρ σ) {v : Val} {x : V} (r : Rel g φ H v x) (i : Nat) : RelEnv g φ H (ρ.set i (some v)) (σ.set i (some x)) := by
  refine ⟨by simp [h.1], fun j u e => ?_⟩
  by_cases hj : i = j
  · subst hj
    rw [List.getElem?_set] at e
    simp only [if_true] at e
    split at e
    · rename_i hl
      cases e
      refine ⟨x, ?_, r⟩
      rw [List.getElem?_set]
      simp [← h.1, hl]
    · cases e
  · rw [List.getElem?_set_ne hj] at e
    obtain ⟨y, h1, h2⟩ := h.2 j u e
    exact ⟨y, by rw [List.getElem?_set_ne hj]; exact h1, h2⟩
theorem RelEnv.wipe {ρ : Env} {σ : L2.St} (h : RelEnv g φ H ρ σ) : ∀ is : List Nat, RelEnv g φ H (wipeE ρ is) (L2.wipe σ is)
  | [] => h
  | i :: is => by
    have ih := RelEnv.wipe h is
    refine ⟨by simp [wipeE, L2.wipe, ih.1], fun j u e => ?_⟩
    simp only [wipeE, L2.wipe] at e ⊢
    by_cases hj : i = j
    · subst hj
      rw [List.getElem?_set] at e
      simp only [if_true] at e
      split at e <;> cases e
    · rw [List.getElem?_set_ne hj] at e
      obtain ⟨y, h1, h2⟩ := ih.2 j u e
      exact ⟨y, by rw [List.getElem?_set_ne hj]; exact h1, h2⟩
theorem RelL.length : ∀ {v : List Val} {x : List V}, RelL g φ H v x → v.length = x.length
  | [], x, h => by simp only [RelL] at h; subst h; rfl
  | v :: r, x, h => by
    simp only [RelL] at h
    obtain ⟨y, t, rfl, _, h2⟩ := h
    simp [RelL.length h2]
theorem RelL.get : ∀ {v : List Val} {x : List V}, RelL g φ H v x → ∀ {i : Nat} {u : Val}, v[i]? = some u → ∃ y, x[i]? = some y ∧ Rel g φ H u y
  | [], x, h, i, u, e => by simp at e
  | v :: r, x, h, i, u, e => by
    simp only [RelL] at h
    obtain ⟨y, t, rfl, h1, h2⟩ := h
    cases i with
    | zero => simp at e; subst e; exact ⟨y, rfl, h1⟩
    | succ i => simpa using RelL.get h2 (i := i) (u := u) (by simpa using e)
theorem RelL.append : ∀ {v v' : List Val} {x x' : List V}, RelL g φ H v x → RelL g φ H v' x' → RelL g φ H (v ++ v') (x ++ x')
  | [], v', x, x', h, h' => by simp only [RelL] at h; subst h; exact h'
  | v :: r, v', x, x', h, h' => by
    simp only [RelL] at h
    obtain ⟨y, t, rfl, h1, h2⟩ := h
    simp only [List.cons_append, RelL]
    exact ⟨y, t ++ x', rfl, h1, RelL.append h2 h'⟩
theorem RelL.one {v : Val} {x : V} (h : Rel g φ H v x) : RelL g φ H [v] [x] := by
  simp only [RelL]; exact ⟨x, [], rfl, h, rfl⟩
theorem RelL.take : ∀ {v : List Val} {x : List V} (n : Nat), RelL g φ H v x → RelL g φ H (v.take n) (x.take n)
  | _, _, 0, _ => by simp [RelL]
  | [], x, n + 1, h => by simp only [RelL] at h; subst h; simp [RelL]
  | v :: r, x, n + 1, h => by
    simp only [RelL] at h
    obtain ⟨y, t, rfl, h1, h2⟩ := h
    simp only [List.take_succ_cons, RelL]
    exact ⟨y, _, rfl, h1, RelL.take n h2⟩
theorem RelL.drop : ∀ {v : List Val} {x : List V} (n : Nat), RelL g φ H v x → RelL g φ H (v.drop n) (x.drop n)
  | _, _, 0, h => by simpa using h
  | [], x, n + 1, h => by simp only [RelL] at h; subst h; simp [RelL]
  | v :: r, x, n + 1, h => by
    simp only [RelL] at h
    obtain ⟨y, t, rfl, h1, h2⟩ := h
    simpa using RelL.drop n h2
theorem RelL.set : ∀ {v : List Val} {x : List V} (i : Nat) {u : Val} {y : V}, RelL g φ H v x → Rel g φ H u y → RelL g φ H (v.set i u) (x.set i y)
  | [], x, i, u, y, h, r => by simp only [RelL] at h; subst h; simp [RelL]
  | v :: s, x, i, u, y, h, r => by
    simp only [RelL] at h
    obtain ⟨z, t, rfl, h1, h2⟩ := h
    cases i with
    | zero => simp only [List.set_cons_zero, RelL]; exact ⟨y, t, rfl, r, h2⟩
    | succ i => simp only [List.set_cons_succ, RelL]; exact ⟨z, _, rfl, h1, RelL.set i h2 r⟩
theorem RelL.dropLast : ∀ {v : List Val} {x : List V}, RelL g φ H v x → RelL g φ H v.dropLast x.dropLast := fun {v x} h => by
  rw [List.dropLast_eq_take, List.dropLast_eq_take, ← RelL.length h]
  exact RelL.take _ h
theorem RelL.eraseIdx : ∀ {v : List Val} {x : List V} (i : Nat), RelL g φ H v x → RelL g φ H (v.eraseIdx i) (x.eraseIdx i)
  | [], x, i, h => by simp only [RelL] at h; subst h; simp [RelL]
  | v :: s, x, i, h => by
    simp only [RelL] at h
    obtain ⟨z, t, rfl, h1, h2⟩ := h
    cases i with
    | zero => simpa using h2
    | succ i => simp only [List.eraseIdx_cons_succ, RelL]; exact ⟨z, _, rfl, h1, RelL.eraseIdx i h2⟩
theorem RelL.reverse : ∀ {v : List Val} {x : List V}, RelL g φ H v x → RelL g φ H v.reverse x.reverse
  | [], x, h => by simp only [RelL] at h; subst h; simp [RelL]
  | v :: r, x, h => by
    simp only [RelL] at h
    obtain ⟨y, t, rfl, h1, h2⟩ := h
    rw [List.reverse_cons, List.reverse_cons]
    exact RelL.append (RelL.reverse h2) (RelL.one h1)
theorem RelL.ints : ∀ {ns : List Int}, RelL g φ H (ns.map Val.int) (ns.map V.int)
  | [] => by simp [RelL]
  | n :: r => by simp only [List.map_cons, RelL]; exact ⟨_, _, rfl, by simp [Rel], RelL.ints⟩
theorem RelL.rep {v : List Val} {x : List V} (h : RelL g φ H v x) : ∀ n : Nat, RelL g φ H (List.replicate n v).flatten (List.replicate n x).flatten
  | 0 => by simp [RelL]
  | n + 1 => by
    rw [List.replicate_succ, List.replicate_succ, List.flatten_cons, List.flatten_cons]
    exact RelL.append h (RelL.rep h n)
theorem RelL.of_ints : ∀ {vs : List Val} {x : List V} {ns : List Int}, RelL g φ H vs x → intsOf vs = some ns → x = ns.map V.int
  | [], x, ns, h, e => by simp only [RelL] at h; simp only [intsOf, Option.some.injEq] at e; subst e; subst h; rfl
  | v :: r, x, ns, h, e => by
    simp only [RelL] at h
    obtain ⟨y, t, rfl, h1, h2⟩ := h
    cases v <;> simp only [intsOf] at e <;> first | (cases e; done) | skip
    obtain ⟨ms, em, rfl⟩ := Option.map_eq_some_iff.mp e
    simp only [Rel] at h1
    subst h1
    rw [RelL.of_ints h2 em]
    rfl
theorem RelL.of_bls : ∀ {vs : List Val} {x : List V} {ns : List Bool}, RelL g φ H vs x → blsOf vs = some ns → x = ns.map V.bl
  | [], x, ns, h, e => by simp only [RelL] at h; simp only [blsOf, Option.some.injEq] at e; subst e; subst h; rfl
  | v :: r, x, ns, h, e => by
    simp only [RelL] at h
    obtain ⟨y, t, rfl, h1, h2⟩ := h
    cases v <;> simp only [blsOf] at e <;> first | (cases e; done) | skip
    obtain ⟨ms, em, rfl⟩ := Option.map_eq_some_iff.mp e
    simp only [Rel] at h1
    subst h1
    rw [RelL.of_bls h2 em]
    rfl
/-! ### stores -/
theorem RelSt.cell {st : Store} (h : RelSt g φ st H) {i : Nat} {o : Obj} (e : st[i]? = some o) : ∃ a, φ.cells[i]? = some a ∧ ObjR g φ H a o := by
  have hi : i < φ.cells.length := by rw [h.len]; exact (List.getElem?_eq_some_iff.mp e).1
  exact ⟨φ.cells[i], by simp [hi], h.at_ i _ o (by simp [hi]) e⟩
theorem ObjR.mono (s : Kp φ φ' H H') {a : Addr} {o : Obj} (k : ∀ u, H a = some u → H' a = some u) (h : ObjR g φ H a o) : ObjR g φ' H' a o := by
  cases o with
  | lst xs => obtain ⟨vs, h1, h2⟩ := h; exact ⟨vs, k _ h1, RelL.monoK s _ _ h2⟩
  | dct xs => obtain ⟨vs, h1, h2⟩ := h; exact ⟨vs, k _ h1, RelD.monoK s _ _ h2⟩
  | ins C xs => obtain ⟨A, dx, vs, h0, h1, h2⟩ := h; exact ⟨A, dx, vs, h0, k _ h1, RelF.monoK s _ _ h2⟩
theorem ObjR.ex {a : Addr} {o : Obj} (h : ObjR g φ H a o) : ∃ u, H a = some u := by
  cases o with
  | lst xs => obtain ⟨vs, h1, h2⟩ := h; exact ⟨_, h1⟩
  | dct xs => obtain ⟨vs, h1, h2⟩ := h; exact ⟨_, h1⟩
  | ins C xs => obtain ⟨A, dx, vs, h0, h1, h2⟩ := h; exact ⟨_, h1⟩
theorem RelSt.someAt {st : Store} (h : RelSt g φ st H) {p : Addr} (m : p ∈ φ.cells) : ∃ u, H p = some u := by
  obtain ⟨i, hi, e⟩ := List.mem_iff_getElem.mp m
  have h2 : i < st.length := by rw [← h.len]; exact hi
  exact (h.at_ i p st[i] (by simp [hi, e]) (by simp [h2])).ex
theorem RelSt.not_mem {st : Store} (h : RelSt g φ st H) {p : Addr} (hp : H p = none) : p ∉ φ := Fm.not_mem' (fun m => by
  obtain ⟨u, hu⟩ := h.someAt m
  rw [hp] at hu; cases hu) (fun m => by
  obtain ⟨u, hu⟩ := h.hs p m
  rw [hp] at hu; cases hu)
theorem some_upd {H : Hp} {p a : Addr} {o : HO} (h : ∃ u, H a = some u) : ∃ u, upd H p o a = some u := by
  by_cases e : a = p
  · subst e; exact ⟨_, upd_same⟩
  · rw [upd_ne e]; exact h
/-- an object that is no cell comes -/
theorem RelSt.add {st : Store} (h : RelSt g φ st H) {p : Addr} {o : HO} (hp : H p = none) : RelSt g φ st (upd H p o) :=
  ⟨h.len, h.nd, fun i a ob e1 e2 => (h.at_ i a ob e1 e2).mono (Step.add hp).kp fun u hu => by rw [upd_ne (ne_of_none hu hp)]; exact hu, h.dis, fun a m => some_upd (h.hs a m)⟩
/-- a new cell comes -/
theorem RelSt.push {st : Store} (h : RelSt g φ st H) {p : Addr} {o : HO} {ob : Obj} (hp : H p = none) (new : ObjR g (φ.push p) (upd H p o) p ob) : RelSt g (φ.push p) (st ++ [ob]) (upd H p o) := by
  refine ⟨by simp [Fm.push, h.len], ?_, fun i a q e1 e2 => ?_, fun a m => ?_, fun a m => some_upd (h.hs a m)⟩
  · show (φ.cells ++ [p]).Nodup
    rw [List.nodup_append]
    exact ⟨h.nd, by simp, fun a ha b hb => by rw [List.mem_singleton.mp hb]; exact fun e => (Fm.not_mem (h.not_mem hp)).1 (e ▸ ha)⟩
  · have e1 : (φ.cells ++ [p])[i]? = some a := e1
    by_cases hi : i < φ.cells.length
    · rw [List.getElem?_append_left hi] at e1
      rw [List.getElem?_append_left (h.len ▸ hi)] at e2
      exact (h.at_ i a q e1 e2).mono (Step.cell hp).kp fun u hu => by rw [upd_ne (ne_of_none hu hp)]; exact hu
    · rw [List.getElem?_append_right (by omega)] at e1
      rw [List.getElem?_append_right (by have := h.len; omega)] at e2
      have h3 := h.len
      have e0 : i - φ.cells.length = 0 := by
        cases hz : i - φ.cells.length with
        | zero => rfl
        | succ n => rw [hz] at e1; simp at e1
      have e0' : i - st.length = 0 := by omega
      rw [e0] at e1; rw [e0'] at e2
      simp at e1 e2
      subst e1 e2
      exact new
  · show a ∉ φ.cells ++ [p]
    intro m'
    rcases List.mem_append.mp m' with m' | m'
    · exact h.dis a m m'
    · rw [List.mem_singleton.mp m'] at m
      exact (Fm.not_mem (h.not_mem hp)).2 m
/-- a cell is written -/
theorem RelSt.put {st : Store} (h : RelSt g φ st H) {i : Nat} {p : Addr} {o : HO} {ob : Obj} (hi : φ.cells[i]? = some p) (new : ObjR g φ (upd H p o) p ob) : RelSt g φ (st.set i ob) (upd H p o) := by
  refine ⟨by simp [h.len], h.nd, fun j a q e1 e2 => ?_, h.dis, fun a m => some_upd (h.hs a m)⟩
  by_cases hj : i = j
  · subst hj
    rw [hi] at e1; cases e1
    rw [List.getElem?_set] at e2
    simp only [if_true] at e2
    split at e2
    · cases e2; exact new
    · cases e2
  · rw [List.getElem?_set_ne hj] at e2
    have ne : a ≠ p := fun e => by
      subst e
      have h1 := List.getElem?_eq_some_iff.mp hi
      have h2 := List.getElem?_eq_some_iff.mp e1
      obtain ⟨b1, c1⟩ := h1
      obtain ⟨b2, c2⟩ := h2
      exact hj ((List.getElem_inj h.nd).mp (c1.trans c2.symm))
    exact (h.at_ j a q e1 e2).mono (Step.put (List.mem_of_getElem? hi)).kp fun u hu => by rw [upd_ne ne]; exact hu
/-- a hidden one comes -/
theorem RelSt.hide {st : Store} (h : RelSt g φ st H) {p : Addr} {o : HO} (hp : H p = none) : RelSt g (φ.hide p) st (upd H p o) := by
  refine ⟨h.len, h.nd, fun i a q e1 e2 => (h.at_ i a q e1 e2).mono (Kp.hide hp) fun u hu => by rw [upd_ne (ne_of_none hu hp)]; exact hu, fun a m => ?_, fun a m => ?_⟩
  · rcases List.mem_cons.mp m with m | m
    · subst m; exact (Fm.not_mem (h.not_mem hp)).1
    · exact h.dis a m
  · rcases List.mem_cons.mp m with m | m
    · subst m; exact ⟨_, upd_same⟩
    · exact some_upd (h.hs a m)
/-- a hidden one is written -/
theorem RelSt.putH {st : Store} (h : RelSt g φ st H) {p : Addr} {o : HO} (hp : p ∈ φ.hid) : RelSt g φ st (upd H p o) :=
  ⟨h.len, h.nd, fun i a q e1 e2 => (h.at_ i a q e1 e2).mono (Kp.put hp) fun u hu => by rw [upd_ne (fun e : a = p => h.dis p hp (by rw [← e]; exact List.mem_of_getElem? e1))]; exact hu, h.dis, fun a m => some_upd (h.hs a m)⟩
/-- a hidden one is shown -/
theorem RelSt.show {st : Store} {p : Addr} (h : RelSt g (φ.hide p) st H) : RelSt g φ st H :=
  ⟨h.len, h.nd, fun i a q e1 e2 => (h.at_ i a q e1 e2).mono Kp.show fun u hu => hu, fun a m => h.dis a (List.mem_cons_of_mem _ m), fun a m => h.hs a (List.mem_cons_of_mem _ m)⟩
end
end Mn

end

section
set_option maxHeartbeats 200000
/-! Mn: expressions are read rightly: each form by itself. -/
namespace Mn
open PySem PySem.Spec PyProof.Rows L2

theorem PE.of {X : Cx} {e : Expr} {t : TE} (h : ∀ σ H Q, t σ H Q → ∃ t', PE X e t' ∧ t' σ H Q) : PE X e t :=
  ⟨fun pins s σ H Q I q => let ⟨_, p, r⟩ := h σ H Q q; p.run pins s σ H Q I r⟩
theorem PT.of {X : Cx} {e : Expr} {t : TT} (h : ∀ σ H Q, t σ H Q → ∃ t', PT X e t' ∧ t' σ H Q) : PT X e t :=
  ⟨fun pins s σ H Q I q => let ⟨_, p, r⟩ := h σ H Q q; p.run pins s σ H Q I r⟩
theorem PI.of {X : Cx} {tg e : Expr} {t : TI} (h : ∀ σ H Q, t σ H Q → ∃ t', PI X tg e t' ∧ t' σ H Q) : PI X tg e t :=
  ⟨fun pins s σ H Q I q => let ⟨_, p, r⟩ := h σ H Q q; p.run pins s σ H Q I r⟩
theorem PS.of {X : Cx} {e : Stmt} {t : TS} (h : ∀ D σ H, t D σ H → ∃ t', PS X e t' ∧ t' D σ H) : PS X e t :=
  ⟨fun pins s σ H D I q => let ⟨_, p, r⟩ := h D σ H q; p.run pins s σ H D I r⟩
theorem PE.mono {X : Cx} {e : Expr} {t t' : TE} (p : PE X e t') (h : ∀ σ H Q, t σ H Q → t' σ H Q) : PE X e t := PE.of fun σ H Q q => ⟨t', p, h σ H Q q⟩

/-! ### the monad -/
theorem bind_ok {α β : Type} {m : M α} {f : α → M β} {st st' : Store} {b : β} (h : (m >>= f) st = .ok b st') : ∃ a st1, m st = .ok a st1 ∧ f a st1 = .ok b st' := by
  have h : (match m st with | .ok a st' => f a st' | .exc c v st' => .exc c v st' | .bad => .bad) = Res.ok b st' := h
  cases e : m st with
  | ok a st1 => rw [e] at h; exact ⟨a, st1, rfl, h⟩
  | exc c v st1 => rw [e] at h; cases h
  | bad => rw [e] at h; cases h
theorem bind_eq {α β : Type} {m : M α} {f : α → M β} {st st1 : Store} {a : α} (h : m st = .ok a st1) : (m >>= f) st = f a st1 := by
  have e : (m >>= f) st = (match m st with | .ok a st' => f a st' | .exc c v st' => .exc c v st' | .bad => .bad) := rfl
  rw [e, h]
theorem look_eq {α : Type} {f : Store → Option α} {st : Store} {b : α} (h : f st = some b) : look f st = .ok b st := by
  unfold look; rw [h]
theorem pure_ok {α : Type} {a b : α} {st st' : Store} (h : (pure a : M α) st = .ok b st') : a = b ∧ st = st' := by
  have h : Res.ok a st = .ok b st' := h
  cases h; exact ⟨rfl, rfl⟩
theorem lift_ok {α : Type} {o : Option α} {b : α} {st st' : Store} (h : lift o st = .ok b st') : o = some b ∧ st = st' := by
  unfold lift at h
  cases o with
  | none => cases h
  | some a => cases h; exact ⟨rfl, rfl⟩
theorem look_ok {α : Type} {f : Store → Option α} {b : α} {st st' : Store} (h : look f st = .ok b st') : f st = some b ∧ st = st' := by
  unfold look at h
  cases e : f st with
  | none => rw [e] at h; cases h
  | some a => rw [e] at h; cases h; exact ⟨rfl, rfl⟩
theorem guard_ok {b : Bool} {u : Unit} {st st' : Store} (h : guardM b st = .ok u st') : b = true ∧ st = st' := by
  unfold guardM at h
  cases b with
  | false => cases h
  | true => cases h; exact ⟨rfl, rfl⟩
theorem lenOk_ok {n : Nat} {u : Unit} {st st' : Store} (h : lenOk n st = .ok u st') : n ≤ sizeLine ∧ st = st' := by
  obtain ⟨h1, h2⟩ := guard_ok h
  exact ⟨of_decide_eq_true h1, h2⟩
theorem bad_ok {α : Type} {b : α} {st st' : Store} (h : (bad : M α) st = .ok b st') : False := by cases h

/-! ### readings -/
/-- what the evaluator says of a computation, as a reading -/
def Rd (g : Gm) {α β : Type} (R : Fm → Hp → α → β → Prop) (m : Env → M α) : L2.St → Hp → (β → Hp → Prop) → Prop := fun σ H Q =>
  ∃ φ ρ st v st', RelEnv g φ H ρ σ ∧ RelSt g φ st H ∧ m ρ st = .ok v st' ∧ ∀ φ' H' x, Step φ φ' H H' → RelSt g φ' st' H' → R φ' H' v x → Q x H'
abbrev RdE (g : Gm) (c : Cf) (m : Ex) : TE := Rd g (Rel g) (evalE c m)
abbrev RdL (g : Gm) (c : Cf) (m : List Ex) : TA := Rd g (RelL g) (evalL c m)
abbrev RelB (_ : Fm) (_ : Hp) (b : Bool) (x : Bool) : Prop := x = b
abbrev RdT (g : Gm) (c : Cf) (m : Ex) : TT := Rd g RelB (testE c m)

/-- calls in X are what c says -/
def CallOk (g : Gm) (X : Cx) (c : Cf) : Prop := ∀ (f : Str) (vs : List Val) (st st' : Store) (v : Val), c.call f vs st = .ok v st' →
  ∃ (fa : Addr) (fd : FuncData) (ps : List Str) (sp : Sp) (k : Nat) (dvs : List V) (ds : List Value), FnOk X.prog X.w X.K X.mg X.base CX0 k fa fd ps sp ∧ Room k X.A ∧ X.mg f = some (.ref fa) ∧ PySem.W.keepIn X.K (.ref fa) = true ∧
    Binds X.K fd ps ds ∧ Vals dvs ds ∧ ∀ (φ : Fm) (H : Hp) (xs : List V) (Q : VK), RelSt g φ st H → RelL g φ H vs xs → (∀ φ' H' x, Step φ φ' H H' → RelSt g φ' st' H' → Rel g φ' H' v x → Q x H') → sp (xs ++ dvs) H Q E0
def MethOk (g : Gm) (X : Cx) (c : Cf) : Prop := ∀ (C m : Str) (vs : List Val) (st st' : Store) (v : Val), c.meth C m vs st = .ok v st' →
  ∃ (A fa : Addr) (fd : FuncData) (ps : List Str) (sp : Sp) (k : Nat) (dvs : List V) (ds : List Value), g.clsA C = some A ∧ Cls X.K A ∧ Meth X.K A m fa ∧ FnOk X.prog X.w X.K X.mg X.base CX0 k fa fd ps sp ∧ Room k X.A ∧
    Binds X.K fd ps ds ∧ Vals dvs ds ∧ ∀ (φ : Fm) (H : Hp) (xs : List V) (Q : VK), RelSt g φ st H → RelL g φ H vs xs → (∀ φ' H' x, Step φ φ' H H' → RelSt g φ' st' H' → Rel g φ' H' v x → Q x H') → sp (xs ++ dvs) H Q E0
def MakeOk (g : Gm) (X : Cx) (c : Cf) : Prop := ∀ (C : Str) (vs : List Val) (st st' : Store) (v : Val), c.make C vs st = .ok v st' →
  ∃ (A fa : Addr) (fd : FuncData) (ps : List Str) (sp : Sp) (k : Nat) (dvs : List V) (ds : List Value), X.mg C = some (.ref A) ∧ Mk X.K A fa ∧ FnOk X.prog X.w X.K X.mg X.base CX0 k fa fd ps sp ∧ Room (k + 1) X.A ∧
    Binds X.K fd ps ds ∧ Vals dvs ds ∧ ∀ (φ : Fm) (H : Hp) (xs : List V) (Q : VK), RelSt g φ st H → RelL g φ H vs xs → (∀ φ' H' x, Step φ φ' H H' → RelSt g φ' st' H' → Rel g φ' H' v x → Q x H') →
      ∀ x dx, H x = none → H dx = none → dx ≠ x → sp (.ref x :: (xs ++ dvs)) (upd (upd H dx (.own x)) x (.ins A dx [])) (fun y H2 => y = .non ∧ Q (.ref x) H2) E0
def GlobOk (g : Gm) (X : Cx) (c : Cf) : Prop := ∀ (x : Str) (v : Val), c.glob x = some v → ∃ u y, X.mg x = some u ∧ RelV y u ∧ ∀ φ H, Rel g φ H v y
/-- the context is one for the evaluator's c; bl: the built-in names that the module has not taken; fl: the attributes' names -/
structure CtxOk (g : Gm) (X : Cx) (c : Cf) (bl fl : List Str) : Prop where
  K : X.K = g.K
  w : X.w = g.w
  calm : X.calm = true
  nd : X.N.Nodup
  hu : X.A.units + 65 < cLine
  call : CallOk g X c
  meth : MethOk g X c
  make : MakeOk g X c
  glob : GlobOk g X c
  blt : ∀ x ∈ bl, X.mg x = none
  fld : ∀ C A f, g.clsA C = some A → f ∈ fl → Cls X.K A ∧ NoAttr X.K A f

section
variable {g : Gm} {φ : Fm} {H : Hp} {st : Store}
theorem tupOf_rel {v : Val} {x : V} {xs : List Val} (e : tupOf v = some xs) (r : Rel g φ H v x) : ∃ a vs, x = .ref a ∧ SqT g.K H a vs ∧ RelL g φ H xs vs := by
  cases v <;> simp only [tupOf] at e <;> first | (cases e; done) | skip
  all_goals
    cases e
    simp only [Rel] at r
  · obtain ⟨a, vs, e, n, ha, r⟩ := r
    exact ⟨a, vs, e, SqT.of ha, r⟩
  · obtain ⟨a, vs, e, h, r⟩ := r
    exact ⟨a, vs, e, h H, r⟩
theorem ownLst_rel {v : Val} {x : V} {xs : List Val} (s : RelSt g φ st H) (e : ownLst st v = some xs) (r : Rel g φ H v x) : ∃ a vs, x = .ref a ∧ H a = some (.lst vs) ∧ RelL g φ H xs vs := by
  cases v <;> simp only [ownLst, lstOf] at e <;> first | (cases e; done) | skip
  · cases e
    simp only [Rel] at r
    obtain ⟨a, vs, e, n, ha, r⟩ := r
    exact ⟨a, vs, e, ha, r⟩
  · rename_i i
    split at e
    · rename_i ys q
      cases e
      simp only [Rel] at r
      obtain ⟨a, e, ha⟩ := r
      obtain ⟨vs, h1, h2⟩ := s.at_ i a _ ha q
      exact ⟨a, vs, e, h1, h2⟩
    · cases e
theorem lstOf_rel {v : Val} {x : V} {xs : List Val} (s : RelSt g φ st H) (e : lstOf st v = some xs) (r : Rel g φ H v x) : ∃ a vs, x = .ref a ∧ SqL g.K H a vs ∧ RelL g φ H xs vs := by
  by_cases h : ∃ ys, v = .klst ys
  · obtain ⟨ys, rfl⟩ := h
    simp only [lstOf] at e
    cases e
    simp only [Rel] at r
    obtain ⟨a, vs, e, h, r⟩ := r
    refine ⟨a, vs, e, ?_, r⟩
    rcases h with h | ⟨_, o, h⟩
    · exact h H
    · exact .inl (.inr ⟨o, h⟩)
  · obtain ⟨a, vs, e1, h1, r1⟩ := ownLst_rel (v := v) s (by cases v <;> first | exact e | exact absurd ⟨_, rfl⟩ h) r
    exact ⟨a, vs, e1, SqL.of h1, r1⟩
theorem seqOf_rel {v : Val} {x : V} {xs : List Val} (s : RelSt g φ st H) (e : seqOf st v = some xs) (r : Rel g φ H v x) : ∃ a vs, x = .ref a ∧ (SqL g.K H a vs ∨ SqT g.K H a vs) ∧ RelL g φ H xs vs := by
  unfold seqOf at e
  cases e1 : tupOf v with
  | some ys =>
    rw [e1] at e; cases e
    obtain ⟨a, vs, h1, h2, h3⟩ := tupOf_rel e1 r
    exact ⟨a, vs, h1, .inr h2, h3⟩
  | none =>
    rw [e1] at e
    obtain ⟨a, vs, h1, h2, h3⟩ := lstOf_rel s e r
    exact ⟨a, vs, h1, .inl h2, h3⟩
theorem dctOf_rel {v : Val} {x : V} {kvs : List (Val × Val)} (s : RelSt g φ st H) (e : dctOf st v = some kvs) (r : Rel g φ H v x) : ∃ a ws, x = .ref a ∧ H a = some (.dK ws) ∧ RelD g φ H kvs ws := by
  cases v <;> simp only [dctOf] at e <;> first | (cases e; done) | skip
  · cases e
    simp only [Rel] at r
    obtain ⟨a, vs, e, n, ha, r⟩ := r
    exact ⟨a, vs, e, ha, r⟩
  · rename_i i
    split at e
    · rename_i ys q
      cases e
      simp only [Rel] at r
      obtain ⟨a, e, ha⟩ := r
      obtain ⟨vs, h1, h2⟩ := s.at_ i a _ ha q
      exact ⟨a, vs, e, h1, h2⟩
    · cases e
theorem insOf_rel {v : Val} {x : V} {r : Nat × Str × List (Str × Val)} (s : RelSt g φ st H) (e : insOf st v = some r) (h : Rel g φ H v x) :
    v = .ref r.1 ∧ st[r.1]? = some (.ins r.2.1 r.2.2) ∧ ∃ a A dx ws, x = .ref a ∧ φ.cells[r.1]? = some a ∧ g.clsA r.2.1 = some A ∧ H a = some (.ins A dx ws) ∧ RelF g φ H r.2.2 ws := by
  cases v <;> simp only [insOf] at e <;> first | (cases e; done) | skip
  rename_i i
  split at e
  · rename_i C fs q
    cases e
    simp only [Rel] at h
    obtain ⟨a, e, ha⟩ := h
    obtain ⟨A, dx, ws, h1, h2, h3⟩ := s.at_ i a _ ha q
    exact ⟨rfl, q, a, A, dx, ws, e, ha, h1, h2, h3⟩
  · cases e
/-! ### fields, keys -/
theorem RelF.get : ∀ {fs : List (Str × Val)} {ws : List (Str × V)} {f : Str} {v : Val}, RelF g φ H fs ws → getF fs f = some v → ∃ y, ws.lookup f = some y ∧ Rel g φ H v y
  | [], ws, f, v, h, e => by simp [getF] at e
  | (k, u) :: r, ws, f, v, h, e => by
    simp only [RelF] at h
    obtain ⟨y, s, rfl, h1, h2⟩ := h
    simp only [getF] at e
    by_cases hk : k = f
    · rw [if_pos hk] at e; cases e
      subst hk
      exact ⟨y, by simp [List.lookup], h1⟩
    · rw [if_neg hk] at e
      obtain ⟨z, h3, h4⟩ := RelF.get h2 e
      refine ⟨z, ?_, h4⟩
      have hb : (f == k) = false := beq_eq_false_iff_ne.mpr fun q => hk q.symm
      simp only [List.lookup, hb]; exact h3
theorem RelF.none : ∀ {fs : List (Str × Val)} {ws : List (Str × V)} {f : Str}, RelF g φ H fs ws → getF fs f = none → ws.lookup f = none
  | [], ws, f, h, e => by simp only [RelF] at h; subst h; rfl
  | (k, u) :: r, ws, f, h, e => by
    simp only [RelF] at h
    obtain ⟨y, s, rfl, h1, h2⟩ := h
    simp only [getF] at e
    by_cases hk : k = f
    · rw [if_pos hk] at e; cases e
    · rw [if_neg hk] at e
      have hb : (f == k) = false := beq_eq_false_iff_ne.mpr fun q => hk q.symm
      simp only [List.lookup, hb]; exact RelF.none h2 e
theorem RelF.put : ∀ {fs : List (Str × Val)} {ws : List (Str × V)} (f : Str) {v : Val} {y : V}, RelF g φ H fs ws → Rel g φ H v y → RelF g φ H (putFv f v fs) (putF f y ws)
  | [], ws, f, v, y, h, r => by simp only [RelF] at h; subst h; simp only [putFv, putF, RelF]; exact ⟨y, [], rfl, r, rfl⟩
  | (k, u) :: s, ws, f, v, y, h, r => by
    simp only [RelF] at h
    obtain ⟨z, t, rfl, h1, h2⟩ := h
    simp only [putFv, putF]
    by_cases hk : k = f
    · rw [if_pos hk, if_pos hk]; simp only [RelF]; exact ⟨y, t, rfl, r, h2⟩
    · rw [if_neg hk, if_neg hk]; simp only [RelF]; exact ⟨z, _, rfl, h1, RelF.put f h2 r⟩
theorem RelF.length : ∀ {fs : List (Str × Val)} {ws : List (Str × V)}, RelF g φ H fs ws → fs.length = ws.length
  | [], ws, h => by simp only [RelF] at h; subst h; rfl
  | (k, u) :: r, ws, h => by
    simp only [RelF] at h
    obtain ⟨y, s, rfl, h1, h2⟩ := h
    simp [RelF.length h2]
theorem RelD.get : ∀ {kvs : List (Val × Val)} {ws : List (L2.Key × V)} {k : Val} {k' : L2.Key}, RelD g φ H kvs ws → keyV k = some k' → 
    (∀ v, getK kvs k = some v → ∃ y, valV ws k' = some y ∧ Rel g φ H v y) ∧ (getK kvs k = none → valV ws k' = none)
  | [], ws, k, k', h, e => by simp only [RelD] at h; subst h; exact ⟨fun v q => by simp [getK] at q, fun _ => rfl⟩
  | (q, u) :: r, ws, k, k', h, e => by
    simp only [RelD] at h
    obtain ⟨q', y, s, rfl, hq, h1, h2⟩ := h
    have ih := RelD.get h2 e
    by_cases hk : q = k
    · subst hk
      rw [hq] at e; cases e
      refine ⟨fun v hv => ⟨y, valV_pos rfl, ?_⟩, fun hv => ?_⟩
      · simp [getK] at hv; subst hv; exact h1
      · simp [getK] at hv
    · have hk' : ¬ q' = k' := fun z => hk (keyV_inj hq (z ▸ e))
      have e2 : getK ((q, u) :: r) k = getK r k := by simp [getK, List.find?_cons, hk]
      rw [e2, valV_neg hk']
      exact ih
theorem RelD.length : ∀ {kvs : List (Val × Val)} {ws : List (L2.Key × V)}, RelD g φ H kvs ws → kvs.length = ws.length
  | [], ws, h => by simp only [RelD] at h; subst h; rfl
  | (k, u) :: r, ws, h => by
    simp only [RelD] at h
    obtain ⟨k', y, s, rfl, _, h1, h2⟩ := h
    simp [RelD.length h2]
theorem RelD.any {k : Val} {k' : L2.Key} (e : keyV k = some k') : ∀ {kvs : List (Val × Val)} {ws : List (L2.Key × V)}, RelD g φ H kvs ws → (kvs.any fun q => decide (q.1 = k)) = ws.any fun q => decide (q.1 = k')
  | [], ws, h => by simp only [RelD] at h; subst h; rfl
  | (q, u) :: r, ws, h => by
    simp only [RelD] at h
    obtain ⟨q', y, s, rfl, hq, h1, h2⟩ := h
    rw [List.any_cons, List.any_cons, RelD.any e h2]
    congr 1
    by_cases hk : q = k
    · subst hk
      rw [hq] at e; cases e
      simp
    · have hk' : ¬ q' = k' := fun z => hk (keyV_inj hq (z ▸ e))
      simp [hk, hk']
theorem RelD.map {k : Val} {k' : L2.Key} (e : keyV k = some k') {v : Val} {y : V} (r : Rel g φ H v y) : ∀ {kvs : List (Val × Val)} {ws : List (L2.Key × V)}, RelD g φ H kvs ws →
    RelD g φ H (kvs.map fun q => if q.1 = k then (q.1, v) else q) (ws.map fun q => if q.1 = k' then (q.1, y) else q)
  | [], ws, h => by simp only [RelD] at h; subst h; simp [RelD]
  | (q, u) :: s, ws, h => by
    simp only [RelD] at h
    obtain ⟨q', z, t, rfl, hq, h1, h2⟩ := h
    have ih := RelD.map e r h2
    simp only [List.map_cons]
    by_cases hk : q = k
    · subst hk
      rw [hq] at e; cases e
      simp only [if_true, RelD]
      exact ⟨_, y, _, rfl, hq, r, ih⟩
    · have hk' : ¬ q' = k' := fun z => hk (keyV_inj hq (z ▸ e))
      simp only [hk, hk', if_false, RelD]
      exact ⟨q', z, _, rfl, hq, h1, ih⟩
theorem RelD.append : ∀ {a b : List (Val × Val)} {x y : List (L2.Key × V)}, RelD g φ H a x → RelD g φ H b y → RelD g φ H (a ++ b) (x ++ y)
  | [], b, x, y, h, h' => by simp only [RelD] at h; subst h; exact h'
  | (k, v) :: r, b, x, y, h, h' => by
    simp only [RelD] at h
    obtain ⟨k', z, s, rfl, hk, h1, h2⟩ := h
    simp only [List.cons_append, RelD]
    exact ⟨k', z, s ++ y, rfl, hk, h1, RelD.append h2 h'⟩
theorem RelD.put {kvs : List (Val × Val)} {ws : List (L2.Key × V)} {k v : Val} {k' : L2.Key} {y : V} (h : RelD g φ H kvs ws) (e : keyV k = some k') (r : Rel g φ H v y) : RelD g φ H (putKv kvs k v) (putK ws k' y) := by
  unfold putKv putK
  rw [RelD.any e h]
  by_cases c : (ws.any fun q => decide (q.1 = k')) = true
  · rw [if_pos c]
    first
      | (rw [if_pos c]; exact RelD.map e r h)
      | (simp only [c, if_true]; exact RelD.map e r h)
  · rw [if_neg c]
    have fin : RelD g φ H (kvs ++ [(k, v)]) (ws ++ [(k', y)]) := RelD.append h (by simp only [RelD]; exact ⟨k', y, [], rfl, e, r, rfl⟩)
    first
      | (rw [if_neg c]; exact fin)
      | (simp only [c]; exact fin)
theorem RelK.get {a : Addr} : ∀ {kvs : List (Str × Val)} {s : Str} {v : Val}, RelK g φ H a kvs → getF kvs s = some v → ∃ u y, PySem.W.nsIn g.K a s = some (some u) ∧ RelV y u ∧ Rel g φ H v y
  | [], s, v, h, e => by simp [getF] at e
  | (k, u) :: r, s, v, h, e => by
    simp only [RelK] at h
    simp only [getF] at e
    by_cases hk : k = s
    · rw [if_pos hk] at e; cases e; subst hk; exact h.1
    · rw [if_neg hk] at e; exact RelK.get h.2 e
/-! ### data -/
mutual
theorem toPy_dp : ∀ (v : Val) (x : V) (d : PyData), toPy v = some d → Rel g φ H v x → Dp g.K H x d
  | .non, x, d, e, h => by simp only [toPy] at e; cases e; simp only [Rel] at h; subst h; exact .non
  | .bl b, x, d, e, h => by simp only [toPy] at e; cases e; simp only [Rel] at h; subst h; exact .bl b
  | .int b, x, d, e, h => by simp only [toPy] at e; cases e; simp only [Rel] at h; subst h; exact .int b
  | .str b, x, d, e, h => by simp only [toPy] at e; cases e; simp only [Rel] at h; subst h; exact .str b
  | .tup xs, x, d, e, h => by
    simp only [toPy] at e
    obtain ⟨ds, e1, rfl⟩ := Option.map_eq_some_iff.mp e
    obtain ⟨a, vs, rfl, h1, h2⟩ := tupOf_rel (v := .tup xs) rfl h
    exact .tup h1 (toPyL_dp xs vs ds e1 h2)
  | .ktup xs, x, d, e, h => by
    simp only [toPy] at e
    obtain ⟨ds, e1, rfl⟩ := Option.map_eq_some_iff.mp e
    obtain ⟨a, vs, rfl, h1, h2⟩ := tupOf_rel (v := .ktup xs) rfl h
    exact .tup h1 (toPyL_dp xs vs ds e1 h2)
  | .lst xs, x, d, e, h => by
    simp only [toPy] at e
    obtain ⟨ds, e1, rfl⟩ := Option.map_eq_some_iff.mp e
    simp only [Rel] at h
    obtain ⟨a, vs, rfl, _, h1, h2⟩ := h
    exact .lst (SqL.of h1) (toPyL_dp xs vs ds e1 h2)
  | .klst xs, x, d, e, h => by
    simp only [toPy] at e
    obtain ⟨ds, e1, rfl⟩ := Option.map_eq_some_iff.mp e
    simp only [Rel] at h
    obtain ⟨a, vs, rfl, h1, h2⟩ := h
    refine .lst (xs := vs) ?_ (toPyL_dp xs vs ds e1 h2)
    rcases h1 with h1 | ⟨_, o, h1⟩
    · exact h1 H
    · exact .inl (.inr ⟨o, h1⟩)
  | .dct _, x, d, e, h => by simp only [toPy] at e; cases e
  | .kdct _, x, d, e, h => by simp only [toPy] at e; cases e
  | .ref _, x, d, e, h => by simp only [toPy] at e; cases e
  | .fn _, x, d, e, h => by simp only [toPy] at e; cases e
theorem toPyL_dp : ∀ (vs : List Val) (xs : List V) (ds : List PyData), toPyL vs = some ds → RelL g φ H vs xs → DpAll g.K H xs ds
  | [], xs, ds, e, h => by simp only [toPyL] at e; cases e; simp only [RelL] at h; subst h; exact .nil
  | v :: r, xs, ds, e, h => by
    simp only [toPyL] at e
    simp only [RelL] at h
    obtain ⟨y, s, rfl, h1, h2⟩ := h
    cases e1 : toPy v with
    | none => rw [e1] at e; cases e
    | some d =>
      rw [e1] at e
      cases e2 : toPyL r with
      | none => rw [e2] at e; cases e
      | some ds' =>
        rw [e2] at e; cases e
        exact .cons (toPy_dp v y d e1 h1) (toPyL_dp r s ds' e2 h2)
end
theorem deref_dp {v : Val} {x : V} {d : PyData} (s : RelSt g φ st H) (e : toPy (deref st v) = some d) (h : Rel g φ H v x) : Dp g.K H x d := by
  by_cases q : ∃ i, v = .ref i
  · obtain ⟨i, rfl⟩ := q
    unfold deref at e
    dsimp only at e
    split at e
    · rename_i xs q
      simp only [toPy] at e
      obtain ⟨ds, e1, rfl⟩ := Option.map_eq_some_iff.mp e
      simp only [Rel] at h
      obtain ⟨a, rfl, ha⟩ := h
      obtain ⟨vs, h1, h2⟩ := s.at_ i a _ ha q
      exact .lst (SqL.of h1) (toPyL_dp xs vs ds e1 h2)
    · simp only [toPy] at e; cases e
  · have e' : deref st v = v := by cases v <;> first | rfl | exact absurd ⟨_, rfl⟩ q
    rw [e'] at e
    exact toPy_dp v x d e h
theorem flat_rel {v : Val} {x : V} (e : flat v = true) (h : Rel g φ H v x) : flatV x = true := by
  cases v <;> simp only [flat] at e <;> first | (cases e; done) | (simp only [Rel] at h; subst h; rfl)
theorem flats_rel : ∀ {vs : List Val} {xs : List V}, vs.all flat = true → RelL g φ H vs xs → xs.all flatV = true
  | [], xs, _, h => by simp only [RelL] at h; subst h; rfl
  | v :: r, xs, e, h => by
    simp only [RelL] at h
    obtain ⟨y, s, rfl, h1, h2⟩ := h
    rw [List.all_cons, Bool.and_eq_true] at e
    rw [List.all_cons, Bool.and_eq_true]
    exact ⟨flat_rel e.1 h1, flats_rel e.2 h2⟩
theorem eqFlat_rel {v u : Val} {x y : V} (e : flat v = true) (e' : flat u = true) (h : Rel g φ H v x) (h' : Rel g φ H u y) : eqFlat v u = eqV x y := by
  cases v <;> simp only [flat] at e <;> first | (cases e; done) | skip
  all_goals
    simp only [Rel] at h
    subst h
    cases u <;> simp only [flat] at e' <;> first | (cases e'; done) | skip
    all_goals
      simp only [Rel] at h'
      subst h'
      rfl
theorem inFlat_rel {u : Val} {y : V} (e' : flat u = true) (h' : Rel g φ H u y) : ∀ {vs : List Val} {xs : List V}, vs.all flat = true → RelL g φ H vs xs → (vs.any fun z => eqFlat z u) = inV y xs
  | [], xs, _, h => by simp only [RelL] at h; subst h; rfl
  | v :: r, xs, e, h => by
    simp only [RelL] at h
    obtain ⟨z, s, rfl, h1, h2⟩ := h
    rw [List.all_cons, Bool.and_eq_true] at e
    show (eqFlat v u || _) = (eqV z y || _)
    rw [eqFlat_rel e.1 e' h1 h', inFlat_rel e' h' e.2 h2]
    rfl
theorem key_rel {v : Val} {x : V} (e : keyOk v = true) (h : Rel g φ H v x) : ∃ k, keyV v = some k ∧ x = kV k := by
  cases v <;> simp only [keyOk, isKey] at e <;> first | (cases e; done) | skip
  all_goals
    simp only [Rel] at h
    subst h
    exact ⟨_, rfl, rfl⟩
end
end Mn

end

section
set_option maxHeartbeats 1000000
/-! Mn: each form of an expression, read rightly. -/
namespace Mn
open PySem PySem.Spec PyProof.Rows L2

section
variable {g : Gm} {c : Cf} {X : Cx} {bl fl : List Str}
/-! ### in a row -/
theorem seq1 {φ : Fm} {ρ : Env} {st st1 : Store} {σ : L2.St} {H : Hp} {m : Ex} {x : Val} {R : VK} (he : RelEnv g φ H ρ σ) (hs : RelSt g φ st H) (e : evalE c m ρ st = .ok x st1)
    (h : ∀ φ1 H1 x', Step φ φ1 H H1 → RelSt g φ1 st1 H1 → RelEnv g φ1 H1 ρ σ → Rel g φ1 H1 x x' → R x' H1) : RdE g c m σ H R :=
  ⟨φ, ρ, st, x, st1, he, hs, e, fun φ' H' x' s1 r1 r2 => h φ' H' x' s1 r1 (he.mono s1) r2⟩
theorem seqL {φ : Fm} {ρ : Env} {st st1 : Store} {σ : L2.St} {H : Hp} {m : List Ex} {x : List Val} {R : List V → Hp → Prop} (he : RelEnv g φ H ρ σ) (hs : RelSt g φ st H) (e : evalL c m ρ st = .ok x st1)
    (h : ∀ φ1 H1 x', Step φ φ1 H H1 → RelSt g φ1 st1 H1 → RelEnv g φ1 H1 ρ σ → RelL g φ1 H1 x x' → R x' H1) : RdL g c m σ H R :=
  ⟨φ, ρ, st, x, st1, he, hs, e, fun φ' H' x' s1 r1 r2 => h φ' H' x' s1 r1 (he.mono s1) r2⟩
theorem seq2 {φ : Fm} {ρ : Env} {st st1 st2 : Store} {σ : L2.St} {H : Hp} {m n : Ex} {x y : Val} {R : V → V → Hp → Prop} (he : RelEnv g φ H ρ σ) (hs : RelSt g φ st H) (e : evalE c m ρ st = .ok x st1) (e2 : evalE c n ρ st1 = .ok y st2)
    (h : ∀ φ2 H2 x' y', Step φ φ2 H H2 → RelSt g φ2 st2 H2 → RelEnv g φ2 H2 ρ σ → Rel g φ2 H2 x x' → Rel g φ2 H2 y y' → R x' y' H2) : RdE g c m σ H fun x' H1 => RdE g c n σ H1 fun y' H2 => R x' y' H2 :=
  seq1 he hs e fun φ1 H1 x' s1 hs1 he1 r1 => seq1 he1 hs1 e2 fun φ2 H2 y' s2 hs2 he2 r2 => h φ2 H2 x' y' (s1.trans s2) hs2 he2 (Rel.mono s2 _ _ r1) r2
abbrev Kont (g : Gm) (φ : Fm) (H : Hp) (v : Val) (st' : Store) (Q : VK) : Prop := ∀ φ' H' x, Step φ φ' H H' → RelSt g φ' st' H' → Rel g φ' H' v x → Q x H'
theorem Kont.after {φ φ1 : Fm} {H H1 : Hp} {v : Val} {st' : Store} {Q : VK} (k : Kont g φ H v st' Q) (s : Step φ φ1 H H1) : Kont g φ1 H1 v st' Q := fun φ' H' x s' hs r => k φ' H' x (s.trans s') hs r
/-- a value without objects -/
theorem Kont.flat {φ : Fm} {H : Hp} {v : Val} {st' : Store} {Q : VK} {x : V} (k : Kont g φ H v st' Q) (hs : RelSt g φ st' H) (r : Rel g φ H v x) : Q x H := k φ H x (Step.refl _ _) hs r
/-- a new object that is no cell -/
theorem Kont.tup {φ : Fm} {H : Hp} {xs : List Val} {vs : List V} {st' : Store} {Q : VK} (k : Kont g φ H (.tup xs) st' Q) (hs : RelSt g φ st' H) (r : RelL g φ H xs vs) {p : Addr} (hp : H p = none) : Q (.ref p) (upd H p (.tup vs)) :=
  k φ _ _ (Step.add hp) (hs.add hp) (by simp only [Rel]; exact ⟨p, vs, rfl, hs.not_mem hp, upd_same, RelL.mono (Step.add hp) _ _ r⟩)
theorem Kont.lst {φ : Fm} {H : Hp} {xs : List Val} {vs : List V} {v : Val} {st st' : Store} {Q : VK} {cell : Bool} (k : Kont g φ H v st' Q) (ev : mkLst cell xs st = .ok v st') (hs : RelSt g φ st H) (r : RelL g φ H xs vs) {p : Addr} (hp : H p = none) : Q (.ref p) (upd H p (.lst vs)) := by
  cases cell with
  | false =>
    obtain ⟨rfl, rfl⟩ := pure_ok ev
    exact k φ _ _ (Step.add hp) (hs.add hp) (by simp only [Rel]; exact ⟨p, vs, rfl, hs.not_mem hp, upd_same, RelL.mono (Step.add hp) _ _ r⟩)
  | true =>
    have ev : Res.ok (Val.ref st.length) (st ++ [Obj.lst xs]) = .ok v st' := ev
    cases ev
    refine k (φ.push p) _ _ (Step.cell hp) (hs.push hp ⟨vs, upd_same, RelL.mono (Step.cell hp) _ _ r⟩) ?_
    simp only [Rel]
    exact ⟨p, rfl, by rw [← hs.len]; show (φ.cells ++ [p])[_]? = _; simp⟩
theorem Kont.dct {φ : Fm} {H H0 : Hp} {xs : List (Val × Val)} {vs : List (L2.Key × V)} {v : Val} {st st' : Store} {Q : VK} {cell : Bool} {p : Addr} {o : HO} (k : Kont g φ H v st' Q) (ev : mkDct cell xs st = .ok v st') (hs : RelSt g φ st H) (r : RelD g φ H xs vs) (hp : H p = none) : Q (.ref p) (upd H p (.dK vs)) := by
  cases cell with
  | false =>
    obtain ⟨rfl, rfl⟩ := pure_ok ev
    exact k φ _ _ (Step.add hp) (hs.add hp) (by simp only [Rel]; exact ⟨p, vs, rfl, hs.not_mem hp, upd_same, RelD.mono (Step.add hp) _ _ r⟩)
  | true =>
    have ev : Res.ok (Val.ref st.length) (st ++ [Obj.dct xs]) = .ok v st' := ev
    cases ev
    refine k (φ.push p) _ _ (Step.cell hp) (hs.push hp ⟨vs, upd_same, RelD.mono (Step.cell hp) _ _ r⟩) ?_
    simp only [Rel]
    exact ⟨p, rfl, by rw [← hs.len]; show (φ.cells ++ [p])[_]? = _; simp⟩

/-! ### names, constants -/
def visB (sc : Scope) (x : Str) : Bool := match sc.names.lookup x with
  | some .local => true
  | some .cell => true
  | some .free => true
  | _ => false
theorem visB_ok {sc : Scope} {x : Str} (h : visB sc x = true) : Vis sc x := by
  unfold visB at h
  split at h
  · rename_i e; exact .inl e
  · rename_i e; exact .inr (.inl e)
  · rename_i e; exact .inr (.inr e)
  · cases h
def glB (sc : Scope) (x : Str) : Bool := match sc.names.lookup x with
  | some .globalImplicit => true
  | _ => false
theorem glB_ok {x : Str} (h : glB X.env.scope x = true) : Gl X x := by
  unfold glB at h
  split at h
  · rename_i e; exact e
  · cases h
def plainName (x : Str) : Bool := !(x == ("__debug__" : Str)) && (!(x == ("__classdict__" : Str)) && !(x == ("__name__" : Str)))
theorem plainName_ok {x : Str} (h : plainName x = true) : (x == ("__debug__" : Str)) = false ∧ (x == ("__classdict__" : Str)) = false ∧ x ≠ "__name__" := by
  unfold plainName at h
  simp only [Bool.and_eq_true, Bool.not_eq_true'] at h
  exact ⟨h.1, h.2.1, beq_eq_false_iff_ne.mp h.2.2⟩
theorem rd_var {i : Nat} {x : Str} {pos : Pos} (hN : X.N[i]? = some x) (hv : visB X.env.scope x = true) (hp : plainName x = true) : PE X (.Name x pos) (RdE g c (.var i)) :=
  PE.of fun σ H Q ⟨φ, ρ, st, v, st', he, hs, ev, k⟩ => by
    obtain ⟨e, rfl⟩ := lift_ok ev
    obtain ⟨y, h1, h2⟩ := he.get e
    exact ⟨_, pe_var hN (visB_ok hv) (plainName_ok hp).1 (plainName_ok hp).2.1, y, h1, k φ H y (Step.refl _ _) hs h2⟩
theorem rd_cst {e : Expr} {v : Val} {x : V} (hp : PE X e (tC x)) (hr : ∀ φ H, Rel g φ H v x) : PE X e (RdE g c (.cst v)) :=
  PE.of fun σ H Q ⟨φ, ρ, st, u, st', he, hs, ev, k⟩ => by
    obtain ⟨e, rfl⟩ := lift_ok ev
    split at e
    · cases e
      exact ⟨_, hp, k φ H x (Step.refl _ _) hs (hr φ H)⟩
    · cases e
theorem rd_glo (C : CtxOk g X c bl fl) {x : Str} {pos : Pos} (hg : glB X.env.scope x = true) (hp : plainName x = true) : PE X (.Name x pos) (RdE g c (.glo x)) :=
  PE.of fun σ H Q ⟨φ, ρ, st, v, st', he, hs, ev, k⟩ => by
    obtain ⟨e, rfl⟩ := lift_ok ev
    obtain ⟨u, y, h1, h2, h3⟩ := C.glob x v e
    exact ⟨_, pe_glob (glB_ok hg) h1 h2 (plainName_ok hp).1, k φ H y (Step.refl _ _) hs (h3 φ H)⟩

/-! ### lists of expressions -/
def notStar : Expr → Bool
  | .Starred _ _ => false
  | _ => true
theorem star_cons {e : Expr} {es : List Expr} {env : PySem.Env} (h : notStar e = true) : starEach (e :: es) env = (false, eval e env) :: starEach es env := by
  cases e <;> first | rfl | exact absurd h Bool.false_ne_true
theorem plain_args {env : PySem.Env} {pos : Pos} : ∀ {es : List Expr}, es.all notStar = true → (backTo pos (starEach es env)).any (·.1) = false
  | [], _ => rfl
  | e :: es, h => by
    rw [List.all_cons, Bool.and_eq_true] at h
    rw [star_cons h.1]
    exact plain_args h.2
theorem rd_nil : PA X [] (RdL g c []) := ⟨fun pos pins s σ H Q I ⟨φ, ρ, st, v, st', he, hs, ev, k⟩ => by
  obtain ⟨rfl, rfl⟩ := pure_ok ev
  exact pa_nil.run pos pins s σ H Q I (k φ H [] (Step.refl _ _) hs (by simp [RelL]))⟩
theorem rd_cons {e : Expr} {es : List Expr} {m : Ex} {ms : List Ex} (h : PE X e (RdE g c m)) (hr : PA X es (RdL g c ms)) (hn : notStar e = true) : PA X (e :: es) (RdL g c (m :: ms)) :=
  ⟨fun pos pins s σ H Q I ⟨φ, ρ, st, v, st', he, hs, ev, k⟩ => by
    have ev : (do let v ← evalE c m ρ; let vs ← evalL c ms ρ; pure (v :: vs) : M (List Val)) st = .ok v st' := ev
    obtain ⟨x, st1, e1, ev⟩ := bind_ok ev
    obtain ⟨xs, st2, e2, ev⟩ := bind_ok ev
    obtain ⟨rfl, rfl⟩ := pure_ok ev
    refine (pa_cons h hr (star_cons hn)).run pos pins s σ H Q I (seq1 he hs e1 fun φ1 H1 x' s1 hs1 he1 r1 => seqL he1 hs1 e2 fun φ2 H2 y' s2 hs2 he2 r2 => ?_)
    exact k φ2 H2 _ (s1.trans s2) hs2 (by simp only [RelL]; exact ⟨_, _, rfl, Rel.mono s2 _ _ r1, r2⟩)⟩
theorem rd_tup {es : List Expr} {ms : List Ex} {x1 : Nat} {pos : Pos} (h : PA X es (RdL g c ms)) : PE X (.Tuple es x1 pos) (RdE g c (.tup ms)) :=
  PE.of fun σ H Q ⟨φ, ρ, st, v, st', he, hs, ev, k⟩ => by
    have ev : (do let vs ← evalL c ms ρ; lenOk vs.length; pure (.tup vs) : M Val) st = .ok v st' := ev
    obtain ⟨xs, st1, e1, ev⟩ := bind_ok ev
    obtain ⟨_, st2, e2, ev⟩ := bind_ok ev
    obtain ⟨hl, rfl⟩ := lenOk_ok e2
    obtain ⟨rfl, rfl⟩ := pure_ok ev
    refine ⟨_, pe_tup h, seqL he hs e1 fun φ1 H1 ys s1 hs1 he1 r1 => ⟨by rw [← r1.length]; exact hl, fun p hp => ?_⟩⟩
    exact (Kont.after k s1).tup hs1 r1 hp
theorem rd_lst {es : List Expr} {ms : List Ex} {cell : Bool} {pos : Pos} (h : PA X es (RdL g c ms)) : PE X (.List es pos) (RdE g c (.lst cell ms)) :=
  PE.of fun σ H Q ⟨φ, ρ, st, v, st', he, hs, ev, k⟩ => by
    have ev : (do let vs ← evalL c ms ρ; lenOk vs.length; mkLst cell vs : M Val) st = .ok v st' := ev
    obtain ⟨xs, st1, e1, ev⟩ := bind_ok ev
    obtain ⟨_, st2, e2, ev⟩ := bind_ok ev
    obtain ⟨hl, rfl⟩ := lenOk_ok e2
    refine ⟨_, pe_lst h, seqL he hs e1 fun φ1 H1 ys s1 hs1 he1 r1 => ⟨by rw [← r1.length]; exact hl, fun p hp => ?_⟩⟩
    exact (Kont.after k s1).lst ev hs1 r1 hp

/-! ### operators -/
def opOf : Op → Operator
  | .add => .Add | .sub => .Sub | .mul => .Mult | .fdiv => .FloorDiv | .mod => .Mod | .shl => .LShift | .shr => .RShift | .band => .BitAnd | .bor => .BitOr | .pow => .Pow
theorem ownTup_eq {v : Val} {xs : List Val} (h : ownTup v = some xs) : v = .tup xs := by
  cases v <;> simp only [ownTup] at h <;> first | (cases h; rfl) | (cases h; done)
theorem small64_ok {i : Int} (h : small64 i = true) : -(2 ^ 64) < i ∧ i < 2 ^ 64 := by
  unfold small64 at h
  simpa using h
theorem powOk_ok {i j : Int} (h : powOk i j = true) : CPow i j := by
  unfold powOk at h
  simp only [Bool.and_eq_true, decide_eq_true_eq] at h
  exact ⟨h.1, h.2.1, h.2.2⟩
theorem binInt_rule {o : Op} {i j r : Int} (h : binInt o i j = some r) : ∃ C G, OpR X (binaryOp (opOf o)) (rI C G) ∧ C i j ∧ G i j = .int r := by
  have tr : ∀ {f : Value → Value → Sem Value} {G : Int → Int → V}, OpR X f (rI0 G) → OpR X f (rI (fun _ _ => True) G) := fun ho pins s σ H x y v u Q I rx ry ⟨i, j, e1, e2, _, q⟩ => ho pins s σ H x y v u Q I rx ry ⟨i, j, e1, e2, q⟩
  cases o <;> simp only [binInt] at h
  case add => cases h; exact ⟨_, _, tr op_add, trivial, rfl⟩
  case sub => cases h; exact ⟨_, _, tr op_sub, trivial, rfl⟩
  case mul =>
    split at h
    · rename_i q
      cases h
      refine ⟨_, _, op_mul, ?_, rfl⟩
      rw [Bool.or_eq_true] at q
      exact q.elim (fun z => .inl (small64_ok z)) fun z => .inr (small64_ok z)
    · cases h
  case fdiv =>
    split at h
    · rename_i q
      cases h
      exact ⟨_, _, op_fdiv, (by simpa using q : 0 < j ∧ j < 1073741824), rfl⟩
    · cases h
  case mod =>
    split at h
    · rename_i q
      cases h
      exact ⟨_, _, op_mod, q, rfl⟩
    · cases h
  case shl =>
    split at h
    · rename_i q
      cases h
      exact ⟨_, _, op_shl, powOk_ok q, rfl⟩
    · cases h
  case shr =>
    split at h
    · rename_i q
      cases h
      exact ⟨_, _, op_shr, q, rfl⟩
    · cases h
  case band => cases h; exact ⟨_, _, tr op_and, trivial, rfl⟩
  case bor => cases h; exact ⟨_, _, tr op_or, trivial, rfl⟩
  case pow =>
    split at h
    · rename_i q
      cases h
      exact ⟨_, _, op_pow, powOk_ok q, rfl⟩
    · cases h
/-- what a op b is worth, by a rule of the layer -/
theorem binop_rule {o : Op} {a b v : Val} {st : Store} (h : binop o a b st = some v) :
    ∃ r, OpR X (binaryOp (opOf o)) r ∧ ∀ (φ : Fm) (H : Hp) (x y : V) (Q : VK), X.K = g.K → RelSt g φ st H → Rel g φ H a x → Rel g φ H b y → Kont g φ H v st Q → r x y H Q := by
  unfold binop at h
  split at h
  · rename_i i j
    obtain ⟨r, hr, rfl⟩ := Option.map_eq_some_iff.mp h
    obtain ⟨C, G, h1, h2, h3⟩ := binInt_rule (X := X) hr
    refine ⟨_, h1, fun φ H x y Q _ hs rx ry k => ?_⟩
    simp only [Rel] at rx ry
    subst rx ry
    exact ⟨i, j, rfl, rfl, h2, by rw [h3]; exact k.flat hs (by simp [Rel])⟩
  · rename_i x y
    split at h
    · rename_i q
      cases h
      obtain ⟨rfl, hz⟩ := q
      refine ⟨_, op_add_str, fun φ H x' y' Q _ hs rx ry k => ?_⟩
      simp only [Rel] at rx ry
      subst rx ry
      exact ⟨x, y, rfl, rfl, hz, k.flat hs (by simp [Rel])⟩
    · cases h
  · split at h
    · cases e1 : ownTup a with
      | some xs =>
        rw [e1] at h
        cases e2 : ownTup b with
        | none => rw [e2] at h; cases h
        | some ys =>
          rw [e2] at h
          dsimp only at h
          split at h
          · rename_i hz
            cases h
            refine ⟨_, op_catA, fun φ H x' y' Q hK hs rx ry k => ?_⟩
            have ea := ownTup_eq e1
            have eb := ownTup_eq e2
            subst ea eb
            have rx0 := rx
            have ry0 := ry
            simp only [Rel] at rx ry
            obtain ⟨pa, va, rfl, na, hpa, ra⟩ := rx
            obtain ⟨pb, vb, rfl, nb, hpb, rb⟩ := ry
            refine ⟨pa, pb, va, vb, rfl, rfl, SqT.of hpa, SqT.of hpb, by rw [← ra.length, ← rb.length]; exact hz, fun e => ?_, fun _ e => ?_, fun _ _ p hp => ?_⟩
            · subst e
              have : xs = [] := List.length_eq_zero_iff.mp (by rw [ra.length]; rfl)
              subst this
              exact k.flat hs ry0
            · subst e
              have : ys = [] := List.length_eq_zero_iff.mp (by rw [rb.length]; rfl)
              subst this
              rw [List.append_nil] at k
              exact k.flat hs rx0
            · exact k.tup hs (ra.append rb) hp
          · cases h
      | none =>
        rw [e1] at h
        cases e2 : ownLst st a with
        | none => rw [e2] at h; cases h
        | some xs =>
          rw [e2] at h
          cases e3 : ownLst st b with
          | none => rw [e3] at h; cases h
          | some ys =>
            rw [e3] at h
            dsimp only at h
            split at h
            · rename_i hz
              cases h
              refine ⟨_, op_cat, fun φ H x' y' Q hK hs rx ry k => ?_⟩
              obtain ⟨pa, va, rfl, hpa, ra⟩ := ownLst_rel hs e2 rx
              obtain ⟨pb, vb, rfl, hpb, rb⟩ := ownLst_rel hs e3 ry
              exact ⟨pa, pb, va, vb, rfl, rfl, hpa, hpb, by rw [← ra.length, ← rb.length]; exact hz, fun p hp => Kont.lst (cell := false) k rfl hs (ra.append rb) hp⟩
            · cases h
    · cases e1 : ownLst st a with
      | none => rw [e1] at h; cases h
      | some xs =>
        rw [e1] at h
        cases b <;> first | (cases h; done) | skip
        dsimp only at h
        split at h
        · rename_i n _ _ hz
          cases h
          simp only [Bool.and_eq_true, decide_eq_true_eq] at hz
          refine ⟨_, op_rep, fun φ H x' y' Q hK hs rx ry k => ?_⟩
          obtain ⟨pa, va, rfl, hpa, ra⟩ := ownLst_rel hs e1 rx
          simp only [Rel] at ry
          subst ry
          exact ⟨pa, _, va, rfl, rfl, hpa, hz.1, hz.2.1, by rw [← ra.length]; exact hz.2.2, fun p hp => Kont.lst (cell := false) k rfl hs (ra.rep _) hp⟩
        · cases h
    · cases h
theorem rd_bin (C : CtxOk g X c bl fl) {a b : Expr} {ma mb : Ex} {o : Op} {pos : Pos} (ha : PE X a (RdE g c ma)) (hb : PE X b (RdE g c mb)) : PE X (.BinOp a (opOf o) b pos) (RdE g c (.bin o ma mb)) :=
  PE.of fun σ H Q ⟨φ, ρ, st, v, st', he, hs, ev, k⟩ => by
    have ev : (do let x ← evalE c ma ρ; let y ← evalE c mb ρ; look (binop o x y) : M Val) st = .ok v st' := ev
    obtain ⟨x, st1, e1, ev⟩ := bind_ok ev
    obtain ⟨y, st2, e2, ev⟩ := bind_ok ev
    obtain ⟨e3, rfl⟩ := look_ok ev
    obtain ⟨r, hr, hq⟩ := binop_rule (g := g) (X := X) e3
    exact ⟨_, pe_op hr ha hb, seq2 he hs e1 e2 fun φ2 H2 x' y' s2 hs2 he2 rx ry => hq φ2 H2 x' y' Q C.K hs2 rx ry (Kont.after k s2)⟩
theorem rd_neg {a : Expr} {ma : Ex} {pos : Pos} (ha : PE X a (RdE g c ma)) : PE X (.UnaryOp .USub a pos) (RdE g c (.neg ma)) :=
  PE.of fun σ H Q ⟨φ, ρ, st, v, st', he, hs, ev, k⟩ => by
    have ev : (do let x ← evalE c ma ρ; (match x with | .int i => pure (.int (-i)) | _ => bad) : M Val) st = .ok v st' := ev
    obtain ⟨x, st1, e1, ev⟩ := bind_ok ev
    cases x <;> first | exact (bad_ok ev).elim | skip
    rename_i i
    obtain ⟨rfl, rfl⟩ := pure_ok ev
    refine ⟨_, pe_un un_neg ha, seq1 he hs e1 fun φ1 H1 x' s1 hs1 he1 r1 => ?_⟩
    simp only [Rel] at r1
    exact ⟨i, r1, (Kont.after k s1).flat hs1 (by simp [Rel])⟩

/-! ### truth -/
theorem truthy_rule (hK : X.K = g.K) {v : Val} {st : Store} {b : Bool} (h : truthy v st = some b) {φ : Fm} {H : Hp} {x : V} (hs : RelSt g φ st H) (r : Rel g φ H v x) : TruV X.K x H b := by
  unfold truthy at h
  split at h
  · cases h; simp only [Rel] at r; subst r; rfl
  · cases h; simp only [Rel] at r; subst r; rfl
  · cases h; simp only [Rel] at r; subst r; rfl
  · split at h
    · rename_i q
      cases h; simp only [Rel] at r; subst r; exact ⟨q, rfl⟩
    · cases h
  · cases e : seqOf st v with
    | some xs =>
      rw [e] at h
      cases h
      obtain ⟨a, vs, rfl, h1, h2⟩ := seqOf_rel hs e r
      rw [hK]
      have := h2.length
      rcases h1 with h1 | h1
      · refine .inl ⟨vs, h1, ?_⟩
        cases xs <;> cases vs <;> simp_all
      · refine .inr (.inl ⟨vs, h1, ?_⟩)
        cases xs <;> cases vs <;> simp_all
    | none =>
      rw [e] at h
      obtain ⟨xs, e2, rfl⟩ := Option.map_eq_some_iff.mp h
      obtain ⟨a, vs, rfl, h1, h2⟩ := dctOf_rel hs e2 r
      refine .inr (.inr ⟨vs, h1, ?_⟩)
      have := h2.length
      cases xs <;> cases vs <;> simp_all
theorem rd_not (C : CtxOk g X c bl fl) {a : Expr} {ma : Ex} {pos : Pos} (ha : PE X a (RdE g c ma)) : PE X (.UnaryOp .Not a pos) (RdE g c (.not ma)) :=
  PE.of fun σ H Q ⟨φ, ρ, st, v, st', he, hs, ev, k⟩ => by
    have ev : (do let x ← evalE c ma ρ; let b ← look (truthy x); pure (.bl !b) : M Val) st = .ok v st' := ev
    obtain ⟨x, st1, e1, ev⟩ := bind_ok ev
    obtain ⟨b, st2, e2, ev⟩ := bind_ok ev
    obtain ⟨e3, rfl⟩ := look_ok e2
    obtain ⟨rfl, rfl⟩ := pure_ok ev
    refine ⟨_, pe_notT ha, seq1 he hs e1 fun φ1 H1 x' s1 hs1 he1 r1 => ⟨b, truthy_rule C.K e3 hs1 r1, ?_⟩⟩
    exact (Kont.after k s1).flat hs1 (by simp [Rel])
theorem rd_and (C : CtxOk g X c bl fl) {a b : Expr} {rest : List Expr} {ma mb : Ex} {pos : Pos} (ha : PE X a (RdE g c ma)) (hb : PE X (.BoolOp .And (b :: rest) pos) (RdE g c mb)) : PE X (.BoolOp .And (a :: b :: rest) pos) (RdE g c (.and ma mb)) :=
  PE.of fun σ H Q ⟨φ, ρ, st, v, st', he, hs, ev, k⟩ => by
    have ev : (do let x ← evalE c ma ρ; let t ← look (truthy x); (match t with | true => evalE c mb ρ | false => pure x) : M Val) st = .ok v st' := ev
    obtain ⟨x, st1, e1, ev⟩ := bind_ok ev
    obtain ⟨t, st2, e2, ev⟩ := bind_ok ev
    obtain ⟨e3, rfl⟩ := look_ok e2
    refine ⟨_, pe_andT ha hb, seq1 he hs e1 fun φ1 H1 x' s1 hs1 he1 r1 => ⟨t, truthy_rule C.K e3 hs1 r1, ?_⟩⟩
    cases t with
    | true => exact iteT (seq1 he1 hs1 ev fun φ2 H2 y' s2 hs2 he2 r2 => (Kont.after k (s1.trans s2)).flat hs2 r2)
    | false =>
      obtain ⟨rfl, rfl⟩ := pure_ok ev
      exact iteF ((Kont.after k s1).flat hs1 r1)
theorem rd_or (C : CtxOk g X c bl fl) {a b : Expr} {rest : List Expr} {ma mb : Ex} {pos : Pos} (ha : PE X a (RdE g c ma)) (hb : PE X (.BoolOp .Or (b :: rest) pos) (RdE g c mb)) : PE X (.BoolOp .Or (a :: b :: rest) pos) (RdE g c (.or ma mb)) :=
  PE.of fun σ H Q ⟨φ, ρ, st, v, st', he, hs, ev, k⟩ => by
    have ev : (do let x ← evalE c ma ρ; let t ← look (truthy x); (match t with | true => pure x | false => evalE c mb ρ) : M Val) st = .ok v st' := ev
    obtain ⟨x, st1, e1, ev⟩ := bind_ok ev
    obtain ⟨t, st2, e2, ev⟩ := bind_ok ev
    obtain ⟨e3, rfl⟩ := look_ok e2
    refine ⟨_, pe_orT ha hb, seq1 he hs e1 fun φ1 H1 x' s1 hs1 he1 r1 => ⟨t, truthy_rule C.K e3 hs1 r1, ?_⟩⟩
    cases t with
    | false => exact iteF (seq1 he1 hs1 ev fun φ2 H2 y' s2 hs2 he2 r2 => (Kont.after k (s1.trans s2)).flat hs2 r2)
    | true =>
      obtain ⟨rfl, rfl⟩ := pure_ok ev
      exact iteT ((Kont.after k s1).flat hs1 r1)
theorem rd_one {a : Expr} {m : Ex} {op : BoolOp} {pos : Pos} (ha : PE X a (RdE g c m)) : PE X (.BoolOp op [a] pos) (RdE g c m) := pe_one ha

/-! ### tests -/
/-- the test of a value -/
theorem rt_truth (C : CtxOk g X c bl fl) {a : Expr} {m : Ex} (ha : PE X a (RdE g c m)) (hw : ∀ whole, isTrue a X.env whole = (do let v ← whole; standAt a.pos; holding [v] (PySem.truthy v))) : PT X a (RdT g c m) :=
  PT.of fun σ H Q ⟨φ, ρ, st, v, st', he, hs, ev, k⟩ => by
    obtain ⟨x, st1, e1, ev⟩ := bind_ok ev
    obtain ⟨e3, rfl⟩ := look_ok ev
    exact ⟨_, pt_truth ha hw, seq1 he hs e1 fun φ1 H1 x' s1 hs1 he1 r1 => ⟨v, truthy_rule C.K e3 hs1 r1, k φ1 H1 v s1 hs1 rfl⟩⟩
theorem rt_not {a : Expr} {m : Ex} {pos : Pos} (ha : PT X a (RdT g c m)) : PT X (.UnaryOp .Not a pos) (RdT g c (.not m)) :=
  PT.of fun σ H Q ⟨φ, ρ, st, v, st', he, hs, ev, k⟩ => by
    obtain ⟨x, st1, e1, ev⟩ := bind_ok ev
    have e1 : (do let x ← evalE c m ρ; let b ← look (truthy x); pure (.bl !b) : M Val) st = .ok x st1 := e1
    obtain ⟨y, st2, e2, e1⟩ := bind_ok e1
    obtain ⟨b, st3, e3, e1⟩ := bind_ok e1
    obtain ⟨rfl, rfl⟩ := pure_ok e1
    obtain ⟨e4, rfl⟩ := look_ok ev
    obtain ⟨e5, rfl⟩ := look_ok e3
    cases e4
    refine ⟨_, pt_not ha, φ, ρ, st, b, st2, he, hs, ?_, fun φ' H' x s' hs' r => ?_⟩
    · exact (bind_eq e2).trans (look_eq e5)
    · subst r; exact k φ' H' _ s' hs' rfl
theorem rw_one {a : Expr} {m : Ex} {pos : Pos} (op : BoolOp) (ha : PT X a (RdT g c m)) : PW X (.BoolOp op [a] pos) (RdT g c m) := by
  cases op with
  | And => exact pw_and1 ha
  | Or => exact pw_or1 ha
theorem PW.of {e : Expr} {t : TT} (h : ∀ σ H Q, t σ H Q → ∃ t', PW X e t' ∧ t' σ H Q) : PW X e t :=
  ⟨fun wh pins s σ H Q I q => let ⟨_, p, r⟩ := h σ H Q q; p.run wh pins s σ H Q I r⟩
theorem test_ok {m : Ex} {ρ : Env} {st st1 : Store} {y : Val} {b : Bool} (e : evalE c m ρ st = .ok y st1) (h : Mn.truthy y st1 = some b) : testE c m ρ st = .ok b st1 := (bind_eq e).trans (look_eq h)
theorem rw_and {a b : Expr} {rest : List Expr} {ma mb : Ex} {pos : Pos} (ha : PT X a (RdT g c ma)) (hb : PW X (.BoolOp .And (b :: rest) pos) (RdT g c mb)) : PW X (.BoolOp .And (a :: b :: rest) pos) (RdT g c (.and ma mb)) :=
  PW.of fun σ H Q ⟨φ, ρ, st, v, st', he, hs, ev, k⟩ => by
    obtain ⟨x, st1, e1, ev⟩ := bind_ok ev
    have e1 : (do let x ← evalE c ma ρ; let t ← look (Mn.truthy x); (match t with | true => evalE c mb ρ | false => pure x) : M Val) st = .ok x st1 := e1
    obtain ⟨y, st2, e2, e1⟩ := bind_ok e1
    obtain ⟨t, st3, e3, e1⟩ := bind_ok e1
    obtain ⟨e5, rfl⟩ := look_ok e3
    obtain ⟨e4, rfl⟩ := look_ok ev
    refine ⟨_, pw_and ha hb, φ, ρ, st, t, st2, he, hs, test_ok e2 e5, fun φ' H' x s' hs' r => ?_⟩
    subst r
    cases x with
    | true => exact iteT ⟨φ', ρ, st2, v, st1, he.mono s', hs', test_ok e1 e4, fun φ2 H2 x2 s2 hs2 r2 => k φ2 H2 x2 (s'.trans s2) hs2 r2⟩
    | false =>
      obtain ⟨rfl, rfl⟩ := pure_ok e1
      rw [e5] at e4; cases e4
      exact iteF (k φ' H' _ s' hs' rfl)
theorem rw_or {a b : Expr} {rest : List Expr} {ma mb : Ex} {pos : Pos} (ha : PT X a (RdT g c ma)) (hb : PW X (.BoolOp .Or (b :: rest) pos) (RdT g c mb)) : PW X (.BoolOp .Or (a :: b :: rest) pos) (RdT g c (.or ma mb)) :=
  PW.of fun σ H Q ⟨φ, ρ, st, v, st', he, hs, ev, k⟩ => by
    obtain ⟨x, st1, e1, ev⟩ := bind_ok ev
    have e1 : (do let x ← evalE c ma ρ; let t ← look (Mn.truthy x); (match t with | true => pure x | false => evalE c mb ρ) : M Val) st = .ok x st1 := e1
    obtain ⟨y, st2, e2, e1⟩ := bind_ok e1
    obtain ⟨t, st3, e3, e1⟩ := bind_ok e1
    obtain ⟨e5, rfl⟩ := look_ok e3
    obtain ⟨e4, rfl⟩ := look_ok ev
    refine ⟨_, pw_or ha hb, φ, ρ, st, t, st2, he, hs, test_ok e2 e5, fun φ' H' x s' hs' r => ?_⟩
    subst r
    cases x with
    | false => exact iteF ⟨φ', ρ, st2, v, st1, he.mono s', hs', test_ok e1 e4, fun φ2 H2 x2 s2 hs2 r2 => k φ2 H2 x2 (s'.trans s2) hs2 r2⟩
    | true =>
      obtain ⟨rfl, rfl⟩ := pure_ok e1
      rw [e5] at e4; cases e4
      exact iteT (k φ' H' _ s' hs' rfl)
theorem rd_ite {d a b : Expr} {md ma mb : Ex} {pos : Pos} (hd : PT X d (RdT g c md)) (ha : PE X a (RdE g c ma)) (hb : PE X b (RdE g c mb)) : PE X (.IfExp d a b pos) (RdE g c (.ite md ma mb)) :=
  PE.of fun σ H Q ⟨φ, ρ, st, v, st', he, hs, ev, k⟩ => by
    have ev : (do let x ← evalE c md ρ; let t ← look (Mn.truthy x); (match t with | true => evalE c ma ρ | false => evalE c mb ρ) : M Val) st = .ok v st' := ev
    obtain ⟨y, st2, e2, ev⟩ := bind_ok ev
    obtain ⟨t, st3, e3, ev⟩ := bind_ok ev
    obtain ⟨e5, rfl⟩ := look_ok e3
    refine ⟨_, pe_ifExp hd ha hb, φ, ρ, st, t, st2, he, hs, test_ok e2 e5, fun φ' H' x s' hs' r => ?_⟩
    subst r
    cases x with
    | true => exact iteT (seq1 (he.mono s') hs' ev fun φ2 H2 y' s2 hs2 he2 r2 => (Kont.after k (s'.trans s2)).flat hs2 r2)
    | false => exact iteF (seq1 (he.mono s') hs' ev fun φ2 H2 y' s2 hs2 he2 r2 => (Kont.after k (s'.trans s2)).flat hs2 r2)
end
end Mn

end

section
set_option maxHeartbeats 1000000
/-! Mn: comparisons, subscripts, fields, calls. -/
namespace Mn
open PySem PySem.Spec PyProof.Rows L2

section
variable {g : Gm} {c : Cf} {X : Cx} {bl fl : List Str}
/-! ### comparisons -/
def cmOf : Cm → CmpOp
  | .lt => .Lt | .le => .LtE | .gt => .Gt | .ge => .GtE | .eq => .Eq | .ne => .NotEq | .is_ => .Is | .isnot => .IsNot | .in_ => .In | .notin => .NotIn
theorem OpR.imp {f : Value → Value → Sem Value} {r r' : R2} (h : OpR X f r) (i : ∀ x y H Q, r' x y H Q → r x y H Q) : OpR X f r' := fun pins s σ H x y v u Q I rx ry q => h pins s σ H x y v u Q I rx ry (i _ _ _ _ q)
theorem op_false {op : CmpOp} : OpR X (compareOp op) (fun _ _ _ _ => False) := fun _ _ _ _ _ _ _ _ _ _ _ _ h => h.elim
theorem op_in_d (hu : X.A.units + 1 < cLine) : OpR X (compareOp .In) (fun y x H Q => ∃ a o, x = .ref a ∧ DGet H a y o ∧ Q (.bl o.isSome) H) := by
  intro pins s σ H y x u v Q I ry rx h
  obtain ⟨a, o, rfl, g, q⟩ := h
  cases rx
  exact d_in hu I g ry fun s' I' => ⟨.bl o.isSome, H, I', rfl, q⟩
theorem op_notin_d (hu : X.A.units + 1 < cLine) : OpR X (compareOp .NotIn) (fun y x H Q => ∃ a o, x = .ref a ∧ DGet H a y o ∧ Q (.bl (!o.isSome)) H) := by
  intro pins s σ H y x u v Q I ry rx h
  obtain ⟨a, o, rfl, g, q⟩ := h
  cases rx
  exact d_notIn hu I g ry fun s' I' => ⟨.bl (!o.isSome), H, I', rfl, q⟩
/-- the form of a rule for a comparison -/
def CmpRule (g : Gm) (X : Cx) (op : CmpOp) (a b : Val) (st : Store) (t : Bool) : Prop :=
  ∃ r, OpR X (compareOp op) r ∧ ∀ (φ : Fm) (H : Hp) (x y : V) (Q : VK), RelSt g φ st H → Rel g φ H a x → Rel g φ H b y → Q (.bl t) H → r x y H Q
theorem eq_rule (C : CtxOk g X c bl fl) {a b : Val} {st : Store} {t : Bool} (h : eqVal a b st = some t) : CmpRule g X .Eq a b st t ∧ CmpRule g X .NotEq a b st (!t) := by
  unfold eqVal at h
  cases ea : toPy (deref st a) with
  | none => rw [ea] at h; cases h
  | some d =>
    rw [ea] at h
    cases eb : toPy (deref st b) with
    | none => rw [eb] at h; cases h
    | some e =>
      rw [eb] at h
      dsimp only at h
      split at h
      · rename_i hs
        cases h
        rw [Bool.and_eq_true] at hs
        have hu : X.A.units + 64 < cLine := by have := C.hu; omega
        refine ⟨⟨_, op_eqD hu, fun φ H x y Q hst rx ry q => ?_⟩, ⟨_, op_neD hu, fun φ H x y Q hst rx ry q => ?_⟩⟩
        all_goals
          refine ⟨d, e, ?_, ?_, hs.1, hs.2, q⟩
          · rw [C.K]; exact deref_dp hst ea rx
          · rw [C.K]; exact deref_dp hst eb ry
      · cases h
theorem in_rule (C : CtxOk g X c bl fl) {a b : Val} {st : Store} {t : Bool} (h : inVal a b st = some t) : CmpRule g X .In a b st t ∧ CmpRule g X .NotIn a b st (!t) := by
  have hu : X.A.units + 65 < cLine := C.hu
  unfold inVal at h
  split at h
  · cases a <;> first | (cases h; done) | skip
    cases h
    refine ⟨⟨_, op_in_str, fun φ H x y Q hst rx ry q => ?_⟩, ⟨_, op_notin_str, fun φ H x y Q hst rx ry q => ?_⟩⟩
    all_goals
      simp only [Rel] at rx ry
      exact ⟨_, _, rx, ry, q⟩
  · rename_i kvs
    cases a <;> first | (cases h; done) | skip
    rename_i z
    cases h
    refine ⟨⟨fun x y H Q => ∃ d es n, KDict X.K X.w d es n ∧ ∃ (z : Str) (r : Option Value), x = .str z ∧ y = .ref d ∧ PySem.W.nsIn X.K d z = some r ∧ Q (.bl r.isSome) H, fun pins s σ H x y v u Q I rx ry ⟨d, es, n, D, q⟩ => op_in_kd D pins s σ H x y v u Q I rx ry q, fun φ H x y Q hst rx ry q => ?_⟩,
      ⟨fun x y H Q => ∃ d es n, KDict X.K X.w d es n ∧ ∃ (z : Str) (r : Option Value), x = .str z ∧ y = .ref d ∧ PySem.W.nsIn X.K d z = some r ∧ Q (.bl (!r.isSome)) H, fun pins s σ H x y v u Q I rx ry ⟨d, es, n, D, q⟩ => op_notIn_kd D pins s σ H x y v u Q I rx ry q, fun φ H x y Q hst rx ry q => ?_⟩⟩
    all_goals
      simp only [Rel] at rx ry
      obtain ⟨d, e, ⟨es, n, D⟩, hn, r⟩ := ry
      rw [← C.K, ← C.w] at D
      refine ⟨d, es, n, D, z, ?_⟩
      rw [C.K]
      cases ez : getF kvs z with
      | none => rw [ez] at q; exact ⟨none, rx, e, hn z ez, q⟩
      | some v =>
        obtain ⟨u, y', h1, _⟩ := r.get ez
        rw [ez] at q
        exact ⟨some u, rx, e, h1, q⟩
  · rename_i n1 n2
    cases ed : dctOf st b with
    | some kvs =>
      rw [ed] at h
      dsimp only at h
      split at h
      · rename_i hk
        cases h
        refine ⟨⟨_, op_in_d (by omega), fun φ H x y Q hst rx ry q => ?_⟩, ⟨_, op_notin_d (by omega), fun φ H x y Q hst rx ry q => ?_⟩⟩
        all_goals
          obtain ⟨p, ws, rfl, hp, r⟩ := dctOf_rel hst ed ry
          obtain ⟨k, hkv, rfl⟩ := key_rel hk rx
          obtain ⟨h1, h2⟩ := r.get hkv
          refine ⟨p, valV ws k, rfl, DGet.k hp, ?_⟩
          cases ez : getK kvs a with
          | none => rw [ez] at q; rw [h2 ez]; exact q
          | some v =>
            obtain ⟨y', h3, _⟩ := h1 v ez
            rw [ez] at q; rw [h3]; exact q
      · cases h
    | none =>
      rw [ed] at h
      dsimp only at h
      cases et : tupOf b with
      | some ys =>
        rw [et] at h
        dsimp only at h
        split at h
        · rename_i hf
          cases h
          rw [Bool.and_eq_true] at hf
          refine ⟨⟨_, op_in_seq, fun φ H x y Q hst rx ry q => ?_⟩, ⟨_, op_notIn_seq, fun φ H x y Q hst rx ry q => ?_⟩⟩
          all_goals
            obtain ⟨p, vs, rfl, hp, r⟩ := tupOf_rel et ry
            rw [← C.K] at hp
            rw [inFlat_rel hf.1 rx hf.2 r] at q
            exact ⟨p, vs, rfl, .inr hp, flat_rel hf.1 rx, flats_rel hf.2 r, q⟩
        · cases h
      | none =>
        rw [et] at h
        dsimp only at h
        cases el : lstOf st b with
        | none => rw [el] at h; cases h
        | some ys =>
          rw [el] at h
          dsimp only at h
          split at h
          · rename_i hf
            cases h
            rw [Bool.and_eq_true] at hf
            refine ⟨⟨_, op_in_seq, fun φ H x y Q hst rx ry q => ?_⟩, ⟨_, op_notIn_seq, fun φ H x y Q hst rx ry q => ?_⟩⟩
            all_goals
              obtain ⟨p, vs, rfl, hp, r⟩ := lstOf_rel hst el ry
              rw [← C.K] at hp
              rw [inFlat_rel hf.1 rx hf.2 r] at q
              exact ⟨p, vs, rfl, .inl hp, flat_rel hf.1 rx, flats_rel hf.2 r, q⟩
          · cases ea : toPy a with
            | none => rw [ea] at h; cases h
            | some d =>
              rw [ea] at h
              dsimp only at h
              cases eb : toPyL ys with
              | none => rw [eb] at h; cases h
              | some ds =>
                rw [eb] at h
                dsimp only at h
                split at h
                · rename_i hs
                  cases h
                  rw [Bool.and_eq_true] at hs
                  refine ⟨⟨_, op_inD hu, fun φ H x y Q hst rx ry q => ?_⟩, ⟨_, op_notInD hu, fun φ H x y Q hst rx ry q => ?_⟩⟩
                  all_goals
                    obtain ⟨p, vs, rfl, hp, r⟩ := lstOf_rel hst el ry
                    refine ⟨d, ds, ?_, ?_, hs.1, hs.2, q⟩
                    · rw [C.K]; exact toPy_dp a x d ea rx
                    · rw [C.K]; exact .lst hp (toPyL_dp ys vs ds eb r)
                · cases h
theorem cmp_rule (C : CtxOk g X c bl fl) {o : Cm} {a b : Val} {st : Store} {t : Bool} (h : cmpVal o a b st = some t) : CmpRule g X (cmOf o) a b st t := by
  cases o <;> simp only [cmpVal] at h
  case lt =>
    split at h <;> cases h
    · exact ⟨_, op_lt, fun φ H x y Q hst rx ry q => by simp only [Rel] at rx ry; exact ⟨_, _, rx, ry, q⟩⟩
    · exact ⟨_, op_lt_str, fun φ H x y Q hst rx ry q => by simp only [Rel] at rx ry; exact ⟨_, _, rx, ry, q⟩⟩
  case le =>
    split at h <;> cases h
    · exact ⟨_, op_le, fun φ H x y Q hst rx ry q => by simp only [Rel] at rx ry; exact ⟨_, _, rx, ry, q⟩⟩
    · exact ⟨_, op_le_str, fun φ H x y Q hst rx ry q => by simp only [Rel] at rx ry; exact ⟨_, _, rx, ry, q⟩⟩
  case gt =>
    split at h <;> cases h
    exact ⟨_, op_gt, fun φ H x y Q hst rx ry q => by simp only [Rel] at rx ry; exact ⟨_, _, rx, ry, q⟩⟩
  case ge =>
    split at h <;> cases h
    exact ⟨_, op_ge, fun φ H x y Q hst rx ry q => by simp only [Rel] at rx ry; exact ⟨_, _, rx, ry, q⟩⟩
  case eq => exact (eq_rule C h).1
  case ne =>
    obtain ⟨r, h1, rfl⟩ := Option.map_eq_some_iff.mp h
    exact (eq_rule C h1).2
  case is_ =>
    split at h <;> cases h
    · refine ⟨_, op_isN, fun φ H x y Q hst rx ry q => ?_⟩
      have e : decide (a = Val.non) = decide (x = .non) := by
        cases a <;> simp only [Rel] at rx <;> first | (subst rx; simp) | (obtain ⟨p, _, rfl, _⟩ := rx; simp) | (obtain ⟨p, rfl, _⟩ := rx; simp)
      rw [e] at q
      exact ⟨by simpa only [Rel] using ry, q⟩
    · exact ⟨_, op_isBl, fun φ H x y Q hst rx ry q => by simp only [Rel] at rx ry; exact ⟨_, _, rx, ry, q⟩⟩
  case isnot =>
    split at h <;> cases h
    · refine ⟨_, op_notN, fun φ H x y Q hst rx ry q => ?_⟩
      have e : decide (a = Val.non) = decide (x = .non) := by
        cases a <;> simp only [Rel] at rx <;> first | (subst rx; simp) | (obtain ⟨p, _, rfl, _⟩ := rx; simp) | (obtain ⟨p, rfl, _⟩ := rx; simp)
      rw [e] at q
      exact ⟨by simpa only [Rel] using ry, q⟩
    · exact ⟨_, op_notBl, fun φ H x y Q hst rx ry q => by simp only [Rel] at rx ry; exact ⟨_, _, rx, ry, q⟩⟩
  case in_ => exact (in_rule C h).1
  case notin =>
    obtain ⟨r, h1, rfl⟩ := Option.map_eq_some_iff.mp h
    exact (in_rule C h1).2
theorem rd_cmp (C : CtxOk g X c bl fl) {a b : Expr} {ma mb : Ex} {o : Cm} {pos : Pos} (ha : PE X a (RdE g c ma)) (hb : PE X b (RdE g c mb)) (hm : behindInMarks (cmOf o) b = false) : PE X (.Compare a [cmOf o] [b] pos) (RdE g c (.cmp o ma mb)) :=
  PE.of fun σ H Q ⟨φ, ρ, st, v, st', he, hs, ev, k⟩ => by
    have ev : (do let x ← evalE c ma ρ; let y ← evalE c mb ρ; let r ← look (cmpVal o x y); pure (.bl r) : M Val) st = .ok v st' := ev
    obtain ⟨x, st1, e1, ev⟩ := bind_ok ev
    obtain ⟨y, st2, e2, ev⟩ := bind_ok ev
    obtain ⟨t, st3, e3, ev⟩ := bind_ok ev
    obtain ⟨e4, rfl⟩ := look_ok e3
    obtain ⟨rfl, rfl⟩ := pure_ok ev
    obtain ⟨r, hr, hq⟩ := cmp_rule C e4
    exact ⟨_, pe_cmpR hr ha hb hm, seq2 he hs e1 e2 fun φ2 H2 x' y' s2 hs2 he2 rx ry => hq φ2 H2 x' y' Q hs2 rx ry ((Kont.after k s2).flat hs2 (by simp [Rel]))⟩
theorem rt_cmp (C : CtxOk g X c bl fl) {a b : Expr} {ma mb : Ex} {o : Cm} {pos : Pos} (ha : PE X a (RdE g c ma)) (hb : PE X b (RdE g c mb)) (hm : behindInMarks (cmOf o) b = false) : PT X (.Compare a [cmOf o] [b] pos) (RdT g c (.cmp o ma mb)) :=
  PT.of fun σ H Q ⟨φ, ρ, st, v, st', he, hs, ev, k⟩ => by
    obtain ⟨w, st4, ev, e5⟩ := bind_ok ev
    have ev : (do let x ← evalE c ma ρ; let y ← evalE c mb ρ; let r ← look (cmpVal o x y); pure (.bl r) : M Val) st = .ok w st4 := ev
    obtain ⟨x, st1, e1, ev⟩ := bind_ok ev
    obtain ⟨y, st2, e2, ev⟩ := bind_ok ev
    obtain ⟨t, st3, e3, ev⟩ := bind_ok ev
    obtain ⟨e4, rfl⟩ := look_ok e3
    obtain ⟨rfl, rfl⟩ := pure_ok ev
    obtain ⟨e6, rfl⟩ := look_ok e5
    cases e6
    obtain ⟨r, hr, hq⟩ := cmp_rule C e4
    exact ⟨_, pt_cmpR hr ha hb hm, seq2 he hs e1 e2 fun φ2 H2 x' y' s2 hs2 he2 rx ry => hq φ2 H2 x' y' _ hs2 rx ry ⟨_, rfl, k φ2 H2 _ s2 hs2 rfl⟩⟩
theorem rd_chain (C : CtxOk g X c bl fl) {a b d : Expr} {ma mb md : Ex} {o p : Cm} {pos : Pos} (ha : PE X a (RdE g c ma)) (hb : PE X b (RdE g c mb)) (hd : PE X d (RdE g c md)) (hm : lastMarks [cmOf o, cmOf p] [b, d] = false) : PE X (.Compare a [cmOf o, cmOf p] [b, d] pos) (RdE g c (.chain o p ma mb md)) :=
  PE.of fun σ H Q ⟨φ, ρ, st, v, st', he, hs, ev, k⟩ => by
    have ev : (do let x ← evalE c ma ρ; let y ← evalE c mb ρ; let r ← look (cmpVal o x y); (match r with | true => (do let z ← evalE c md ρ; let r ← look (cmpVal p y z); pure (.bl r)) | false => pure (.bl false)) : M Val) st = .ok v st' := ev
    obtain ⟨x, st1, e1, ev⟩ := bind_ok ev
    obtain ⟨y, st2, e2, ev⟩ := bind_ok ev
    obtain ⟨t, st3, e3, ev⟩ := bind_ok ev
    obtain ⟨e4, rfl⟩ := look_ok e3
    obtain ⟨r, hr, hq⟩ := cmp_rule C e4
    cases t with
    | false =>
      obtain ⟨rfl, rfl⟩ := pure_ok ev
      refine ⟨_, pe_chain hr (op_false (op := cmOf p)) ha hb hd hm, seq2 he hs e1 e2 fun φ2 H2 x' y' s2 hs2 he2 rx ry => hq φ2 H2 x' y' _ hs2 rx ry ⟨false, rfl, iteF ?_⟩⟩
      exact (Kont.after k s2).flat hs2 (by simp [Rel])
    | true =>
      obtain ⟨z, st4, e5, ev⟩ := bind_ok ev
      obtain ⟨t2, st5, e6, ev⟩ := bind_ok ev
      obtain ⟨e7, rfl⟩ := look_ok e6
      obtain ⟨rfl, rfl⟩ := pure_ok ev
      obtain ⟨r2, hr2, hq2⟩ := cmp_rule C e7
      refine ⟨_, pe_chain hr hr2 ha hb hd hm, seq2 he hs e1 e2 fun φ2 H2 x' y' s2 hs2 he2 rx ry => hq φ2 H2 x' y' _ hs2 rx ry ⟨true, rfl, iteT (seq1 he2 hs2 e5 fun φ3 H3 z' s3 hs3 he3 rz => ?_)⟩⟩
      exact hq2 φ3 H3 y' z' Q hs3 (Rel.mono s3 _ _ ry) rz ((Kont.after k (s2.trans s3)).flat hs3 (by simp [Rel]))
theorem rt_chain (C : CtxOk g X c bl fl) {a b d : Expr} {ma mb md : Ex} {o p : Cm} {pos : Pos} (ha : PE X a (RdE g c ma)) (hb : PE X b (RdE g c mb)) (hd : PE X d (RdE g c md)) (hm : lastMarks [cmOf o, cmOf p] [b, d] = false) : PT X (.Compare a [cmOf o, cmOf p] [b, d] pos) (RdT g c (.chain o p ma mb md)) :=
  PT.of fun σ H Q ⟨φ, ρ, st, v, st', he, hs, ev, k⟩ => by
    obtain ⟨w, st9, ev, e9⟩ := bind_ok ev
    have ev : (do let x ← evalE c ma ρ; let y ← evalE c mb ρ; let r ← look (cmpVal o x y); (match r with | true => (do let z ← evalE c md ρ; let r ← look (cmpVal p y z); pure (.bl r)) | false => pure (.bl false)) : M Val) st = .ok w st9 := ev
    obtain ⟨x, st1, e1, ev⟩ := bind_ok ev
    obtain ⟨y, st2, e2, ev⟩ := bind_ok ev
    obtain ⟨t, st3, e3, ev⟩ := bind_ok ev
    obtain ⟨e4, rfl⟩ := look_ok e3
    obtain ⟨r, hr, hq⟩ := cmp_rule C e4
    cases t with
    | false =>
      obtain ⟨rfl, rfl⟩ := pure_ok ev
      obtain ⟨e6, rfl⟩ := look_ok e9
      cases e6
      refine ⟨_, pt_chain hr (op_false (op := cmOf p)) ha hb hd hm, seq2 he hs e1 e2 fun φ2 H2 x' y' s2 hs2 he2 rx ry => hq φ2 H2 x' y' _ hs2 rx ry ⟨false, rfl, iteF ⟨false, rfl, ?_⟩⟩⟩
      exact k φ2 H2 _ s2 hs2 rfl
    | true =>
      obtain ⟨z, st4, e5, ev⟩ := bind_ok ev
      obtain ⟨t2, st5, e6, ev⟩ := bind_ok ev
      obtain ⟨e7, rfl⟩ := look_ok e6
      obtain ⟨rfl, rfl⟩ := pure_ok ev
      obtain ⟨e8, rfl⟩ := look_ok e9
      cases e8
      obtain ⟨r2, hr2, hq2⟩ := cmp_rule C e7
      refine ⟨_, pt_chain hr hr2 ha hb hd hm, seq2 he hs e1 e2 fun φ2 H2 x' y' s2 hs2 he2 rx ry => hq φ2 H2 x' y' _ hs2 rx ry ⟨true, rfl, iteT (seq1 he2 hs2 e5 fun φ3 H3 z' s3 hs3 he3 rz => ?_)⟩⟩
      exact hq2 φ3 H3 y' z' _ hs3 (Rel.mono s3 _ _ ry) rz ⟨_, rfl, k φ3 H3 _ (s2.trans s3) hs3 rfl⟩
end
end Mn

end

section
set_option maxHeartbeats 1000000
/-! Mn: subscripts, slices, fields, calls. -/
namespace Mn
open PySem PySem.Spec PyProof.Rows L2

/-! ### the text of a method's call -/
def baseOk (o : Expr) : Bool := match o with
  | .Call (.Name _ _) [] [] _ => false
  | _ => true
theorem base_ok {o : Expr} {m : Str} {env : PySem.Env} {t : Sem Value} (h : baseOk o = true) : attributeBase o m env t = t := by
  unfold attributeBase
  split
  · cases h
  · rfl
theorem all_plain {env : PySem.Env} {pos : Pos} : ∀ {es : List Expr}, es.all notStar = true → (backTo pos (starEach es env)).all (fun x => !x.1) = true
  | [], _ => rfl
  | e :: es, h => by
    rw [List.all_cons, Bool.and_eq_true] at h
    rw [star_cons h.1]
    exact all_plain h.2
theorem few_ok {es : List Expr} {env : PySem.Env} {pos : Pos} (hs : es.all notStar = true) (hn : es.length < 30) :
    ((backTo pos (starEach es env)).all (fun x => !x.1) && (backToKw pos (keywordEach [] env)).all (fun x => x.1.isSome)
      && decide (es.length + ([] : List Keyword).length + (if ([] : List Keyword).isEmpty then 0 else 1) < 30)) = true := by
  rw [all_plain hs]
  have : es.length + 0 + 0 < 30 := hn
  show (true && true && decide (es.length + 0 + 0 < 30)) = true
  rw [decide_eq_true this]
  rfl
theorem meth_tree {o : Expr} {m : Str} {apos pos : Pos} {es : List Expr} {env : PySem.Env} (hb : baseOk o = true) (hl : (apos.endLine == pos.line) = true) (hs : es.all notStar = true) (hn : es.length < 30) :
    eval (.Call (.Attribute o m apos) es [] pos) env = (do
      let ov ← eval o env
      standAt apos.atName
      let (f, first) ← holding [ov] (getMethod ov m (plainOf o env))
      callWith pos f first (backTo pos (starEach es env)) (backToKw pos (keywordEach [] env))) := by
  have e0 : eval (.Call (.Attribute o m apos) es [] pos) env = (do
      let ov ← attributeBase o m env (eval o env)
      standAt apos.atName
      methodCall o m apos pos env ov (es.length + ([] : List Keyword).length) (backTo pos (starEach es env)) (backToKw pos (keywordEach [] env))) := by rfl
  rw [e0, base_ok hb]
  have hf : methodCallForm (es.length + ([] : List Keyword).length) (backTo pos (starEach es env)) (backToKw pos (keywordEach [] env)) = true := few_ok hs hn
  congr 1
  funext ov
  congr 1
  funext _
  exact mcall_line hf hl

section
variable {g : Gm} {c : Cf} {X : Cx} {bl fl : List Str}
/-! ### a[i] -/
theorem ix_dict (hu : X.A.units + 1 < cLine) : IxR X (fun x y H Q => ∃ a v, x = .ref a ∧ DGet H a y (some v) ∧ Q v H) := by
  intro value slice pins s σ H x y v u Q I rx ry h hs
  obtain ⟨a, w, rfl, g, q⟩ := h
  cases rx
  exact tail_any (dict_typeIs I g) slot_dict_getitem.lookup (d_getItem hu I g ry fun w' s' I' rw' => ⟨w, H, I', rw', q⟩) hs
theorem RelL.atI {φ : Fm} {H : Hp} {xs : List Val} {vs : List V} (r : RelL g φ H xs vs) {k : Int} {v : Val} (e : L2.atI xs k = some v) : ∃ y, L2.atI vs k = some y ∧ Rel g φ H v y := by
  unfold L2.atI at e ⊢
  obtain ⟨j, hj, e⟩ := Option.bind_eq_some_iff.mp e
  rw [← r.length, hj]
  exact r.get e
theorem idx_rule (C : CtxOk g X c bl fl) {a i v : Val} {st : Store} (h : idxVal a i st = some v) :
    ∃ r, IxR X r ∧ ∀ (φ : Fm) (H : Hp) (x y : V) (Q : VK), RelSt g φ st H → Rel g φ H a x → Rel g φ H i y → Kont g φ H v st Q → r x y H Q := by
  have hu := C.hu
  unfold idxVal at h
  split at h
  · cases i <;> first | (cases h; done) | skip
    dsimp only at h
    split at h
    · rename_i hz
      obtain ⟨ch, e, rfl⟩ := Option.map_eq_some_iff.mp h
      refine ⟨_, ix_str, fun φ H x y Q hst rx ry k => ?_⟩
      simp only [Rel] at rx ry
      exact ⟨_, _, ch, rx, ry, hz, e, k.flat hst (by simp [Rel])⟩
    · cases h
  · cases i <;> first | (cases h; done) | skip
    dsimp only at h
    refine ⟨_, ix_kdict, fun φ H x y Q hst rx ry k => ?_⟩
    simp only [Rel] at rx ry
    obtain ⟨d, e, ⟨es, n, D⟩, hn, r⟩ := rx
    obtain ⟨u, y', h1, h2, h3⟩ := r.get h
    rw [C.K, C.w]
    exact ⟨d, _, y', e, ry, ⟨es, n, u, D.at_, D.lit, h1, h2⟩, k.flat hst h3⟩
  · cases ed : dctOf st a with
    | some kvs =>
      rw [ed] at h
      dsimp only at h
      split at h
      · rename_i hk
        refine ⟨_, ix_dict (by omega), fun φ H x y Q hst rx ry k => ?_⟩
        obtain ⟨p, ws, rfl, hp, r⟩ := dctOf_rel hst ed rx
        obtain ⟨kk, hkv, rfl⟩ := key_rel hk ry
        obtain ⟨y', h1, h2⟩ := (r.get hkv).1 v h
        exact ⟨p, y', rfl, by rw [← h1]; exact DGet.k hp, k.flat hst h2⟩
      · cases h
    | none =>
      rw [ed] at h
      dsimp only at h
      cases i <;> first | (cases h; done) | skip
      dsimp only at h
      obtain ⟨xs, e, h⟩ := Option.bind_eq_some_iff.mp h
      refine ⟨_, ix_seq, fun φ H x y Q hst rx ry k => ?_⟩
      obtain ⟨p, vs, rfl, hp, r⟩ := seqOf_rel hst e rx
      obtain ⟨y', h1, h2⟩ := r.atI h
      simp only [Rel] at ry
      rw [← C.K] at hp
      rcases hp with hp | hp
      · exact .inl ⟨p, vs, _, y', rfl, ry, hp, h1, k.flat hst h2⟩
      · exact .inr (.inl ⟨p, vs, _, y', rfl, ry, hp, h1, k.flat hst h2⟩)
theorem rd_idx (C : CtxOk g X c bl fl) {a b : Expr} {ma mb : Ex} {pos : Pos} (ha : PE X a (RdE g c ma)) (hb : PE X b (RdE g c mb)) (hp : PlainIx b) : PE X (.Subscript a b pos) (RdE g c (.idx ma mb)) :=
  PE.of fun σ H Q ⟨φ, ρ, st, v, st', he, hs, ev, k⟩ => by
    have ev : (do let x ← evalE c ma ρ; let y ← evalE c mb ρ; look (idxVal x y) : M Val) st = .ok v st' := ev
    obtain ⟨x, st1, e1, ev⟩ := bind_ok ev
    obtain ⟨y, st2, e2, ev⟩ := bind_ok ev
    obtain ⟨e3, rfl⟩ := look_ok ev
    obtain ⟨r, hr, hq⟩ := idx_rule C e3
    exact ⟨_, pe_ix hr ha hb hp, seq2 he hs e1 e2 fun φ2 H2 x' y' s2 hs2 he2 rx ry => hq φ2 H2 x' y' Q hs2 rx ry (Kont.after k s2)⟩

/-! ### slices -/
theorem cut_rel {φ : Fm} {H : Hp} {xs : List Val} {vs : List V} (r : RelL g φ H xs vs) (lo hi : Option Int) : RelL g φ H (cutL xs lo hi) (cutV vs lo hi) := by
  unfold cutL cutV
  rw [← r.length]
  exact (r.drop _).take _
theorem cut_whole {xs : List Val} {lo hi : Option Int} (h : HT.sIx xs.length 0 lo = 0 ∧ HT.sIx xs.length xs.length hi = xs.length) : cutL xs lo hi = xs := by
  unfold cutL
  rw [h.1, h.2]
  simp
/-- a part of a slice -/
def RdO (g : Gm) (c : Cf) (m : Option Ex) : TO := fun σ H Q => ∃ φ ρ st v st' o, RelEnv g φ H ρ σ ∧ RelSt g φ st H ∧ evalO c m ρ st = .ok v st' ∧ intO v = some o ∧ ∀ φ' H', Step φ φ' H H' → RelSt g φ' st' H' → Q o H'
theorem ro_none : PO X none (RdO g c none) := ⟨fun pins s σ H Q I ⟨φ, ρ, st, v, st', o, he, hs, ev, hi, k⟩ => by
  obtain ⟨rfl, rfl⟩ := pure_ok ev
  cases hi
  exact po_none.run pins s σ H Q I (k φ H (Step.refl _ _) hs)⟩
theorem ro_some {e : Expr} {m : Ex} (h : PE X e (RdE g c m)) : PO X (some e) (RdO g c (some m)) := ⟨fun pins s σ H Q I ⟨φ, ρ, st, v, st', o, he, hs, ev, hi, k⟩ => by
  have ev : (do let v ← evalE c m ρ; pure (some v) : M (Option Val)) st = .ok v st' := ev
  obtain ⟨x, st1, e1, ev⟩ := bind_ok ev
  obtain ⟨rfl, rfl⟩ := pure_ok ev
  cases x <;> first | (cases hi; done) | skip
  cases hi
  refine (po_some h).run pins s σ H Q I (seq1 he hs e1 fun φ1 H1 x' s1 hs1 he1 r1 => ?_)
  simp only [Rel] at r1
  exact ⟨_, r1, k φ1 H1 s1 hs1⟩⟩
theorem slc_rule (C : CtxOk g X c bl fl) {a : Val} {lo hi : Option Int} {st : Store} {r : Cut} (h : slcVal a lo hi st = some r) :
    ∃ rr, SlR X rr ∧ ∀ (φ : Fm) (H : Hp) (x : V) (Q : VK) (v : Val) (st' : Store) (cell : Bool), RelSt g φ st H → Rel g φ H a x → cutM cell r st = .ok v st' → Kont g φ H v st' Q → rr x lo hi H Q := by
  unfold slcVal at h
  split at h
  · split at h
    · rename_i hz
      cases h
      refine ⟨_, sl_str, fun φ H x Q v st' cell hst rx ev k => ?_⟩
      obtain ⟨rfl, rfl⟩ := pure_ok ev
      simp only [Rel] at rx
      exact ⟨_, rx, hz, k.flat hst (by simp [Rel])⟩
    · cases h
  · cases e1 : ownTup a with
    | some xs =>
      rw [e1] at h
      cases h
      refine ⟨_, sl_tupA, fun φ H x Q v st' cell hst rx ev k => ?_⟩
      obtain ⟨rfl, rfl⟩ := pure_ok ev
      have ea := ownTup_eq e1
      subst ea
      have rx0 := rx
      simp only [Rel] at rx
      obtain ⟨p, vs, rfl, np, hp, r⟩ := rx
      refine ⟨p, vs, rfl, SqT.of hp, fun hw => ?_, fun _ q hq => k.tup hst (cut_rel r lo hi) hq⟩
      rw [← r.length] at hw
      rw [cut_whole hw] at k
      exact k.flat hst rx0
    | none =>
      rw [e1] at h
      obtain ⟨xs, e2, rfl⟩ := Option.map_eq_some_iff.mp h
      refine ⟨_, sl_list, fun φ H x Q v st' cell hst rx ev k => ?_⟩
      obtain ⟨p, vs, rfl, hp, r⟩ := lstOf_rel hst e2 rx
      rw [← C.K] at hp
      exact ⟨p, vs, rfl, hp, fun q hq => k.lst ev hst (cut_rel r lo hi) hq⟩
theorem rd_slc (C : CtxOk g X c bl fl) {a : Expr} {lo hi : Option Expr} {ma : Ex} {ml mh : Option Ex} {cell : Bool} {p2 pos : Pos} (ha : PE X a (RdE g c ma)) (hl : PO X lo (RdO g c ml)) (hh : PO X hi (RdO g c mh)) : PE X (.Subscript a (.Slice lo hi none p2) pos) (RdE g c (.slc cell ma ml mh)) :=
  PE.of fun σ H Q ⟨φ, ρ, st, v, st', he, hs, ev, k⟩ => by
    have ev : (do let x ← evalE c ma ρ; let l ← evalO c ml ρ; let h ← evalO c mh ρ; let l ← lift (intO l); let h ← lift (intO h); let r ← look (slcVal x l h); cutM cell r : M Val) st = .ok v st' := ev
    obtain ⟨x, st1, e1, ev⟩ := bind_ok ev
    obtain ⟨l, st2, e2, ev⟩ := bind_ok ev
    obtain ⟨h, st3, e3, ev⟩ := bind_ok ev
    obtain ⟨l', st4, e4, ev⟩ := bind_ok ev
    obtain ⟨h', st5, e5, ev⟩ := bind_ok ev
    obtain ⟨r, st6, e6, ev⟩ := bind_ok ev
    obtain ⟨q4, rfl⟩ := lift_ok e4
    obtain ⟨q5, rfl⟩ := lift_ok e5
    obtain ⟨q6, rfl⟩ := look_ok e6
    obtain ⟨rr, hr, hq⟩ := slc_rule C q6
    refine ⟨_, pe_slice hr ha hl hh, seq1 he hs e1 fun φ1 H1 x' s1 hs1 he1 r1 => ⟨φ1, ρ, st1, l, st2, l', he1, hs1, e2, q4, fun φ2 H2 s2 hs2 => ⟨φ2, ρ, st2, h, st3, h', he1.mono s2, hs2, e3, q5, fun φ3 H3 s3 hs3 => ?_⟩⟩⟩
    exact hq φ3 H3 x' Q v st' cell hs3 (Rel.mono (s2.trans s3) _ _ r1) ev (Kont.after k (s1.trans (s2.trans s3)))
theorem rd_rev (C : CtxOk g X c bl fl) {a : Expr} {ma : Ex} {cell : Bool} {n : Nat} {p1 p2 p3 pos : Pos} (ha : PE X a (RdE g c ma)) : PE X (.Subscript a (.Slice none none (some (.UnaryOp .USub (.Constant (.int 1) n p1) p2)) p3) pos) (RdE g c (.rev cell ma)) :=
  PE.of fun σ H Q ⟨φ, ρ, st, v, st', he, hs, ev, k⟩ => by
    have ev : (do let x ← evalE c ma ρ; let xs ← look fun st => lstOf st x; mkLst cell xs.reverse : M Val) st = .ok v st' := ev
    obtain ⟨x, st1, e1, ev⟩ := bind_ok ev
    obtain ⟨xs, st2, e2, ev⟩ := bind_ok ev
    obtain ⟨e3, rfl⟩ := look_ok e2
    refine ⟨_, pe_revL ha, seq1 he hs e1 fun φ1 H1 x' s1 hs1 he1 r1 => ?_⟩
    obtain ⟨p, vs, rfl, hp, r⟩ := lstOf_rel hs1 e3 r1
    rw [← C.K] at hp
    exact ⟨p, vs, rfl, hp, fun q hq => (Kont.after k s1).lst ev hs1 r.reverse hq⟩

/-! ### fields -/
theorem rd_fld (C : CtxOk g X c bl fl) {e : Expr} {m : Ex} {f : Str} {pos : Pos} (he : PE X e (RdE g c m)) (hb : baseOk e = true) (hf : f ∈ fl) : PE X (.Attribute e f pos) (RdE g c (.fld m f)) :=
  PE.of fun σ H Q ⟨φ, ρ, st, v, st', hre, hs, ev, k⟩ => by
    have ev : (do let x ← evalE c m ρ; look fun st => (insOf st x).bind fun r => getF r.2.2 f : M Val) st = .ok v st' := ev
    obtain ⟨x, st1, e1, ev⟩ := bind_ok ev
    obtain ⟨e2, rfl⟩ := look_ok ev
    obtain ⟨r, e3, e4⟩ := Option.bind_eq_some_iff.mp e2
    refine ⟨_, pe_fld he (base_ok hb), seq1 hre hs e1 fun φ1 H1 x' s1 hs1 he1 r1 => ?_⟩
    obtain ⟨_, _, a, A, dx, ws, rfl, ha, hc, hH, rf⟩ := insOf_rel hs1 e3 r1
    obtain ⟨y, h1, h2⟩ := rf.get e4
    obtain ⟨hc1, hc2⟩ := C.fld _ A f hc hf
    exact ⟨a, A, dx, ws, y, rfl, hH, hc1, hc2, h1, (Kont.after k s1).flat hs1 h2⟩

/-! ### calls -/
theorem rd_call (C : CtxOk g X c bl fl) {f : Str} {e : Expr} {es : List Expr} {ms : List Ex} {p pos : Pos} (h : PA X (e :: es) (RdL g c ms)) (hn : (e :: es).all notStar = true) (hg : glB X.env.scope f = true) (hp : plainName f = true) : PE X (.Call (.Name f p) (e :: es) [] pos) (RdE g c (.call f ms)) :=
  PE.of fun σ H Q ⟨φ, ρ, st, v, st', he, hs, ev, k⟩ => by
    have ev : (do let vs ← evalL c ms ρ; c.call f vs : M Val) st = .ok v st' := ev
    obtain ⟨xs, st1, e1, ev⟩ := bind_ok ev
    obtain ⟨fa, fd, ps, sp, kk, dvs, ds, F, hr, hm, hk, hb, hd, hsp⟩ := C.call f xs st1 st' v ev
    rw [List.all_cons, Bool.and_eq_true] at hn
    refine ⟨_, pe_call F hr (glB_ok hg) hm hk hb hd pass0 h (plainName_ok hp).1 (star_cons hn.1) (plain_args hn.2), seqL he hs e1 fun φ1 H1 ys s1 hs1 he1 r1 => ?_⟩
    exact hsp φ1 H1 ys Q hs1 r1 (Kont.after k s1)
theorem rd_call0 (C : CtxOk g X c bl fl) {f : Str} {p pos : Pos} (hg : glB X.env.scope f = true) (hp : plainName f = true) : PE X (.Call (.Name f p) [] [] pos) (RdE g c (.call f [])) :=
  PE.of fun σ H Q ⟨φ, ρ, st, v, st', he, hs, ev, k⟩ => by
    have ev : (do let vs ← evalL c [] ρ; c.call f vs : M Val) st = .ok v st' := ev
    obtain ⟨xs, st1, e1, ev⟩ := bind_ok ev
    obtain ⟨rfl, rfl⟩ := pure_ok e1
    obtain ⟨fa, fd, ps, sp, kk, dvs, ds, F, hr, hm, hk, hb, hd, hsp⟩ := C.call f [] st st' v ev
    exact ⟨_, pe_call0 F hr (glB_ok hg) hm hk hb hd pass0 (plainName_ok hp).1, hsp φ H [] Q hs (by simp [RelL]) k⟩
theorem rd_make (C : CtxOk g X c bl fl) {f : Str} {e : Expr} {es : List Expr} {ms : List Ex} {p pos : Pos} (h : PA X (e :: es) (RdL g c ms)) (hn : (e :: es).all notStar = true) (hg : glB X.env.scope f = true) (hp : plainName f = true) : PE X (.Call (.Name f p) (e :: es) [] pos) (RdE g c (.make f ms)) :=
  PE.of fun σ H Q ⟨φ, ρ, st, v, st', he, hs, ev, k⟩ => by
    have ev : (do let vs ← evalL c ms ρ; c.make f vs : M Val) st = .ok v st' := ev
    obtain ⟨xs, st1, e1, ev⟩ := bind_ok ev
    obtain ⟨A, fa, fd, ps, sp, kk, dvs, ds, hm, M, F, hr, hb, hd, hsp⟩ := C.make f xs st1 st' v ev
    rw [List.all_cons, Bool.and_eq_true] at hn
    refine ⟨_, pe_make M F hr (glB_ok hg) hm hb hd pass0 h (plainName_ok hp).1 (star_cons hn.1) (plain_args hn.2), seqL he hs e1 fun φ1 H1 ys s1 hs1 he1 r1 => ?_⟩
    exact hsp φ1 H1 ys Q hs1 r1 (Kont.after k s1)
theorem rd_make0 (C : CtxOk g X c bl fl) {f : Str} {p pos : Pos} (hg : glB X.env.scope f = true) (hp : plainName f = true) : PE X (.Call (.Name f p) [] [] pos) (RdE g c (.make f [])) :=
  PE.of fun σ H Q ⟨φ, ρ, st, v, st', he, hs, ev, k⟩ => by
    have ev : (do let vs ← evalL c [] ρ; c.make f vs : M Val) st = .ok v st' := ev
    obtain ⟨xs, st1, e1, ev⟩ := bind_ok ev
    obtain ⟨rfl, rfl⟩ := pure_ok e1
    obtain ⟨A, fa, fd, ps, sp, kk, dvs, ds, hm, M, F, hr, hb, hd, hsp⟩ := C.make f [] st st' v ev
    exact ⟨_, pe_make0 M F hr (glB_ok hg) hm hb hd pass0 (plainName_ok hp).1, hsp φ H [] Q hs (by simp [RelL]) k⟩
theorem getF_isNone {fs : List (Str × Val)} {m : Str} (h : (getF fs m).isNone = true) : getF fs m = none := Option.isNone_iff_eq_none.mp h
theorem rd_meth (C : CtxOk g X c bl fl) {o : Expr} {m : Str} {e : Expr} {es : List Expr} {mo : Ex} {ms : List Ex} {apos pos : Pos} (ho : PE X o (RdE g c mo)) (h : PA X (e :: es) (RdL g c ms)) (hn : (e :: es).all notStar = true) (hl30 : (e :: es).length < 30)
    (hb : baseOk o = true) (hl : (apos.endLine == pos.line) = true) : PE X (.Call (.Attribute o m apos) (e :: es) [] pos) (RdE g c (.meth mo m ms)) :=
  PE.of fun σ H Q ⟨φ, ρ, st, v, st', he, hs, ev, k⟩ => by
    have ev : (do let x ← evalE c mo ρ; let r ← look fun st => insOf st x; guardM (getF r.2.2 m).isNone; let vs ← evalL c ms ρ; c.meth r.2.1 m (x :: vs) : M Val) st = .ok v st' := ev
    obtain ⟨x, st1, e1, ev⟩ := bind_ok ev
    obtain ⟨r, st2, e2, ev⟩ := bind_ok ev
    obtain ⟨_, st3, e3, ev⟩ := bind_ok ev
    obtain ⟨xs, st4, e4, ev4⟩ := bind_ok ev
    obtain ⟨q2, rfl⟩ := look_ok e2
    obtain ⟨q3, rfl⟩ := guard_ok e3
    obtain ⟨A, fa, fd, ps, sp, kk, dvs, ds, hA, hC, hM, F, hr, hbi, hd, hsp⟩ := C.meth r.2.1 m (x :: xs) st4 st' v ev4
    have hn' := hn
    rw [List.all_cons, Bool.and_eq_true] at hn'
    refine ⟨_, pe_meth ho hC hM F hr hbi hd pass0 h (star_cons hn'.1) (plain_args hn'.2) (meth_tree hb hl hn hl30), seq1 he hs e1 fun φ1 H1 x' s1 hs1 he1 r1 => ?_⟩
    obtain ⟨_, _, a, A', dx, ws, rfl, ha, hc, hH, rf⟩ := insOf_rel hs1 q2 r1
    rw [hA] at hc; cases hc
    refine ⟨a, dx, ws, rfl, hH, rf.none (getF_isNone q3), seqL he1 hs1 e4 fun φ2 H2 ys s2 hs2 he2 r2 => ?_⟩
    exact hsp φ2 H2 (.ref a :: ys) Q hs2 (by simp only [RelL]; exact ⟨_, _, rfl, Rel.mono s2 _ _ r1, r2⟩) (Kont.after k (s1.trans s2))
theorem rd_meth0 (C : CtxOk g X c bl fl) {o : Expr} {m : Str} {mo : Ex} {apos pos : Pos} (ho : PE X o (RdE g c mo)) (hb : baseOk o = true) (hl : (apos.endLine == pos.line) = true) : PE X (.Call (.Attribute o m apos) [] [] pos) (RdE g c (.meth mo m [])) :=
  PE.of fun σ H Q ⟨φ, ρ, st, v, st', he, hs, ev, k⟩ => by
    have ev : (do let x ← evalE c mo ρ; let r ← look fun st => insOf st x; guardM (getF r.2.2 m).isNone; let vs ← evalL c [] ρ; c.meth r.2.1 m (x :: vs) : M Val) st = .ok v st' := ev
    obtain ⟨x, st1, e1, ev⟩ := bind_ok ev
    obtain ⟨r, st2, e2, ev⟩ := bind_ok ev
    obtain ⟨_, st3, e3, ev⟩ := bind_ok ev
    obtain ⟨xs, st4, e4, ev⟩ := bind_ok ev
    obtain ⟨q2, rfl⟩ := look_ok e2
    obtain ⟨q3, rfl⟩ := guard_ok e3
    obtain ⟨rfl, rfl⟩ := pure_ok e4
    obtain ⟨A, fa, fd, ps, sp, kk, dvs, ds, hA, hC, hM, F, hr, hbi, hd, hsp⟩ := C.meth r.2.1 m [x] st1 st' v ev
    refine ⟨_, pe_meth0 ho hC hM F hr hbi hd pass0 (meth_tree hb hl rfl (by decide)), seq1 he hs e1 fun φ1 H1 x' s1 hs1 he1 r1 => ?_⟩
    obtain ⟨_, _, a, A', dx, ws, rfl, ha, hc, hH, rf⟩ := insOf_rel hs1 q2 r1
    rw [hA] at hc; cases hc
    exact ⟨a, dx, ws, rfl, hH, rf.none (getF_isNone q3), hsp φ1 H1 [.ref a] Q hs1 (by simp only [RelL]; exact ⟨_, _, rfl, r1, rfl⟩) (Kont.after k s1)⟩
end
end Mn

end

section
set_option maxHeartbeats 1000000
/-! Mn: built-in functions and types. -/
namespace Mn
open PySem PySem.Spec PyProof.Rows L2

/-! ### plain facts -/
theorem insInt_perm (x : Int) : ∀ l : List Int, (insInt x l).Perm (x :: l)
  | [] => .refl _
  | y :: r => by
    unfold insInt
    split
    · exact .refl _
    · exact ((insInt_perm x r).cons y).trans (.swap x y r)
theorem sortInt_perm : ∀ l : List Int, (sortInt l).Perm l
  | [] => .refl _
  | x :: r => (insInt_perm x _).trans ((sortInt_perm r).cons x)
theorem insInt_sorted (x : Int) : ∀ l : List Int, l.Pairwise (· ≤ ·) → (insInt x l).Pairwise (· ≤ ·)
  | [], _ => by simp [insInt]
  | y :: r, h => by
    rw [List.pairwise_cons] at h
    unfold insInt
    split
    · rename_i hxy
      rw [List.pairwise_cons]
      refine ⟨fun z hz => ?_, List.pairwise_cons.mpr h⟩
      rcases List.mem_cons.mp hz with e | e
      · omega
      · have := h.1 z e; omega
    · rename_i hxy
      rw [List.pairwise_cons]
      refine ⟨fun z hz => ?_, insInt_sorted x r h.2⟩
      rcases List.mem_cons.mp ((insInt_perm x r).mem_iff.mp hz) with e | e
      · omega
      · exact h.1 z e
theorem sortInt_sorted : ∀ l : List Int, (sortInt l).Pairwise (· ≤ ·)
  | [] => .nil
  | x :: r => insInt_sorted x _ (sortInt_sorted r)
theorem sorted_unique : ∀ {a b : List Int}, a.Perm b → a.Pairwise (· ≤ ·) → b.Pairwise (· ≤ ·) → a = b
  | [], b, p, _, _ => p.nil_eq
  | x :: a, [], p, _, _ => absurd p.length_eq (by simp)
  | x :: a, y :: b, p, ha, hb => by
    rw [List.pairwise_cons] at ha hb
    have e : x = y := by
      have h1 : x ∈ y :: b := p.mem_iff.mp (List.mem_cons_self ..)
      have h2 : y ∈ x :: a := p.mem_iff.mpr (List.mem_cons_self ..)
      rcases List.mem_cons.mp h1 with h1 | h1
      · exact h1
      · rcases List.mem_cons.mp h2 with h2 | h2
        · exact h2.symm
        · have := ha.1 y h2; have := hb.1 x h1; omega
    subst e
    rw [sorted_unique (List.Perm.cons_inv p) ha.2 hb.2]
theorem maxL_mem : ∀ (m : Int) (l : List Int), maxL m l ∈ m :: l
  | m, [] => List.mem_singleton.mpr rfl
  | m, x :: r => by
    unfold maxL
    have h := maxL_mem (if x > m then x else m) r
    rcases List.mem_cons.mp h with h | h
    · rw [h]; split <;> simp
    · exact List.mem_cons_of_mem _ (List.mem_cons_of_mem _ h)
theorem maxL_ge : ∀ (m : Int) (l : List Int), ∀ y ∈ m :: l, y ≤ maxL m l
  | m, [], y, h => by rw [List.mem_singleton.mp h]; exact Int.le_refl _
  | m, x :: r, y, h => by
    unfold maxL
    have ih := maxL_ge (if x > m then x else m) r
    have h0 := ih _ (List.mem_cons_self ..)
    rcases List.mem_cons.mp h with h | h
    · subst h; split at h0 <;> split <;> omega
    · rcases List.mem_cons.mp h with h | h
      · subst h; split at h0 <;> split <;> omega
      · exact ih y (List.mem_cons_of_mem _ h)
theorem minL_mem : ∀ (m : Int) (l : List Int), minL m l ∈ m :: l
  | m, [] => List.mem_singleton.mpr rfl
  | m, x :: r => by
    unfold minL
    have h := minL_mem (if x < m then x else m) r
    rcases List.mem_cons.mp h with h | h
    · rw [h]; split <;> simp
    · exact List.mem_cons_of_mem _ (List.mem_cons_of_mem _ h)
theorem minL_le : ∀ (m : Int) (l : List Int), ∀ y ∈ m :: l, minL m l ≤ y
  | m, [], y, h => by rw [List.mem_singleton.mp h]; exact Int.le_refl _
  | m, x :: r, y, h => by
    unfold minL
    have ih := minL_le (if x < m then x else m) r
    have h0 := ih _ (List.mem_cons_self ..)
    rcases List.mem_cons.mp h with h | h
    · subst h; split at h0 <;> split <;> omega
    · rcases List.mem_cons.mp h with h | h
      · subst h; split at h0 <;> split <;> omega
      · exact ih y (List.mem_cons_of_mem _ h)

section
variable {g : Gm} {c : Cf} {X : Cx} {bl fl : List Str}
def bltV : Bl → Value
  | .len => .builtin "len" | .abs => .builtin "abs" | .int => .type "int" | .list => .type "list" | .tuple => .type "tuple"
  | .max2 => .builtin "max" | .min2 => .builtin "min" | .sum => .builtin "sum" | .all => .builtin "all" | .any => .builtin "any"
  | .sorted => .builtin "sorted" | .max1 => .builtin "max" | .min1 => .builtin "min" | .str => .type "str" | .set_ => .type "set"
theorem RelL.one_of {φ : Fm} {H : Hp} {v : Val} {xs : List V} (r : RelL g φ H [v] xs) : ∃ x, xs = [x] ∧ Rel g φ H v x := by
  simp only [RelL] at r
  obtain ⟨y, s, rfl, h, rfl⟩ := r
  exact ⟨y, rfl, h⟩
theorem RelL.two_of {φ : Fm} {H : Hp} {v u : Val} {xs : List V} (r : RelL g φ H [v, u] xs) : ∃ x y, xs = [x, y] ∧ Rel g φ H v x ∧ Rel g φ H u y := by
  simp only [RelL] at r
  obtain ⟨y, s, rfl, h, z, t, rfl, h2, rfl⟩ := r
  exact ⟨y, z, rfl, h, h2⟩
theorem blt_rule (C : CtxOk g X c bl fl) {cell : Bool} {b : Bl} {vs : List Val} {v : Val} {st st' : Store} (h : bltVal cell b vs st = .ok v st') :
    ∃ r, CallR X (bltV b) r ∧ ∀ (φ : Fm) (H : Hp) (xs : List V) (Q : VK), RelSt g φ st H → RelL g φ H vs xs → Kont g φ H v st' Q → r xs H Q := by
  have hK := C.K
  have hc := C.calm
  unfold bltVal at h
  split at h
  case h_1 => -- len
    rename_i u
    obtain ⟨e, rfl⟩ := look_ok h
    split at e
    · rename_i z
      split at e
      · rename_i hz
        cases e
        refine ⟨_, call_len_str, fun φ H xs Q hs r k => ?_⟩
        obtain ⟨x, rfl, rx⟩ := r.one_of
        simp only [Rel] at rx
        subst rx
        exact ⟨z, rfl, hz, k.flat hs (by simp [Rel])⟩
      · cases e
    · split at e
      · rename_i ys q
        cases e
        refine ⟨_, call_len_seq, fun φ H xs Q hs r k => ?_⟩
        obtain ⟨x, rfl, rx⟩ := r.one_of
        obtain ⟨a, us, rfl, h1, h2⟩ := seqOf_rel hs q rx
        rw [← hK] at h1
        exact ⟨a, us, rfl, h1, k.flat hs (by simp [Rel, h2.length])⟩
      · obtain ⟨kvs, q, rfl⟩ := Option.map_eq_some_iff.mp e
        refine ⟨_, call_lenD, fun φ H xs Q hs r k => ?_⟩
        obtain ⟨x, rfl, rx⟩ := r.one_of
        obtain ⟨a, us, rfl, h1, h2⟩ := dctOf_rel hs q rx
        exact ⟨a, us, rfl, h1, k.flat hs (by simp [Rel, h2.length])⟩
  case h_2 => -- abs
    obtain ⟨rfl, rfl⟩ := pure_ok h
    refine ⟨_, call_abs, fun φ H xs Q hs r k => ?_⟩
    obtain ⟨x, rfl, rx⟩ := r.one_of
    simp only [Rel] at rx
    subst rx
    exact ⟨_, rfl, k.flat hs (by simp [Rel])⟩
  case h_3 =>
    obtain ⟨rfl, rfl⟩ := pure_ok h
    refine ⟨_, call_int1, fun φ H xs Q hs r k => ?_⟩
    obtain ⟨x, rfl, rx⟩ := r.one_of
    simp only [Rel] at rx
    subst rx
    exact .inl ⟨_, rfl, k.flat hs (by simp [Rel])⟩
  case h_4 =>
    obtain ⟨rfl, rfl⟩ := pure_ok h
    refine ⟨_, call_int1, fun φ H xs Q hs r k => ?_⟩
    obtain ⟨x, rfl, rx⟩ := r.one_of
    simp only [Rel] at rx
    subst rx
    exact .inr ⟨_, rfl, k.flat hs (by simp [Rel])⟩
  case h_5 =>
    obtain ⟨rfl, rfl⟩ := pure_ok h
    refine ⟨_, call_max2 hc, fun φ H xs Q hs r k => ?_⟩
    obtain ⟨x, y, rfl, rx, ry⟩ := r.two_of
    simp only [Rel] at rx ry
    subst rx ry
    exact ⟨_, _, rfl, k.flat hs (by simp [Rel])⟩
  case h_6 =>
    obtain ⟨rfl, rfl⟩ := pure_ok h
    refine ⟨_, call_min2 hc, fun φ H xs Q hs r k => ?_⟩
    obtain ⟨x, y, rfl, rx, ry⟩ := r.two_of
    simp only [Rel] at rx ry
    subst rx ry
    exact ⟨_, _, rfl, k.flat hs (by simp [Rel])⟩
  case h_7 =>
    obtain ⟨ys, st1, e1, e2⟩ := bind_ok h
    obtain ⟨q, rfl⟩ := look_ok e1
    refine ⟨_, call_list_of, fun φ H xs Q hs r k => ?_⟩
    obtain ⟨x, rfl, rx⟩ := r.one_of
    obtain ⟨a, us, rfl, h1, h2⟩ := seqOf_rel hs q rx
    rw [← hK] at h1
    exact ⟨a, us, rfl, h1, fun l hl => k.lst e2 hs h2 hl⟩
  case h_8 =>
    rename_i u
    obtain ⟨e, rfl⟩ := look_ok h
    split at e
    · rename_i ys q
      cases e
      refine ⟨_, call_tuple_of, fun φ H xs Q hs r k => ?_⟩
      obtain ⟨x, rfl, rx⟩ := r.one_of
      obtain ⟨a, us, rfl, h1, h2⟩ := tupOf_rel q rx
      rw [← hK] at h1
      exact ⟨a, us, rfl, .inr ⟨h1, k.flat hs rx⟩⟩
    · obtain ⟨ys, q, rfl⟩ := Option.map_eq_some_iff.mp e
      refine ⟨_, call_tuple_of, fun φ H xs Q hs r k => ?_⟩
      obtain ⟨x, rfl, rx⟩ := r.one_of
      obtain ⟨a, us, rfl, h1, h2⟩ := lstOf_rel hs q rx
      rw [← hK] at h1
      exact ⟨a, us, rfl, .inl ⟨h1, fun l hl => k.tup hs h2 hl⟩⟩
  case h_9 =>
    obtain ⟨e, rfl⟩ := look_ok h
    obtain ⟨ys, q, e⟩ := Option.bind_eq_some_iff.mp e
    obtain ⟨ns, qn, rfl⟩ := Option.map_eq_some_iff.mp e
    refine ⟨_, cr_sum hc, fun φ H xs Q hs r k => ?_⟩
    obtain ⟨x, rfl, rx⟩ := r.one_of
    obtain ⟨a, us, rfl, h1, h2⟩ := lstOf_rel hs q rx
    rw [← hK, h2.of_ints qn] at h1
    exact ⟨a, ns, rfl, h1, k.flat hs (by simp [Rel])⟩
  case h_10 =>
    obtain ⟨e, rfl⟩ := look_ok h
    obtain ⟨ys, q, e⟩ := Option.bind_eq_some_iff.mp e
    obtain ⟨ns, qn, rfl⟩ := Option.map_eq_some_iff.mp e
    refine ⟨_, cr_all hc, fun φ H xs Q hs r k => ?_⟩
    obtain ⟨x, rfl, rx⟩ := r.one_of
    obtain ⟨a, us, rfl, h1, h2⟩ := lstOf_rel hs q rx
    rw [← hK, h2.of_bls qn] at h1
    exact ⟨a, ns, rfl, h1, k.flat hs (by simp [Rel])⟩
  case h_11 =>
    obtain ⟨e, rfl⟩ := look_ok h
    obtain ⟨ys, q, e⟩ := Option.bind_eq_some_iff.mp e
    obtain ⟨ns, qn, rfl⟩ := Option.map_eq_some_iff.mp e
    refine ⟨_, cr_any hc, fun φ H xs Q hs r k => ?_⟩
    obtain ⟨x, rfl, rx⟩ := r.one_of
    obtain ⟨a, us, rfl, h1, h2⟩ := lstOf_rel hs q rx
    rw [← hK, h2.of_bls qn] at h1
    exact ⟨a, ns, rfl, h1, k.flat hs (by simp [Rel])⟩
  case h_12 =>
    obtain ⟨e, rfl⟩ := look_ok h
    obtain ⟨ys, q, e⟩ := Option.bind_eq_some_iff.mp e
    obtain ⟨ns, qn, e⟩ := Option.bind_eq_some_iff.mp e
    cases ns with
    | nil => cases e
    | cons n ns =>
      cases e
      refine ⟨_, cr_max hc, fun φ H xs Q hs r k => ?_⟩
      obtain ⟨x, rfl, rx⟩ := r.one_of
      obtain ⟨a, us, rfl, h1, h2⟩ := lstOf_rel hs q rx
      rw [← hK, h2.of_ints qn] at h1
      refine ⟨a, n :: ns, rfl, h1, by simp, fun m hm hy => ?_⟩
      have e : m = maxL n ns := by have h3 := maxL_ge n ns m hm; have h4 := hy _ (maxL_mem n ns); omega
      exact k.flat hs (by simp [Rel, e])
  case h_13 =>
    obtain ⟨e, rfl⟩ := look_ok h
    obtain ⟨ys, q, e⟩ := Option.bind_eq_some_iff.mp e
    obtain ⟨ns, qn, e⟩ := Option.bind_eq_some_iff.mp e
    cases ns with
    | nil => cases e
    | cons n ns =>
      cases e
      refine ⟨_, cr_min hc, fun φ H xs Q hs r k => ?_⟩
      obtain ⟨x, rfl, rx⟩ := r.one_of
      obtain ⟨a, us, rfl, h1, h2⟩ := lstOf_rel hs q rx
      rw [← hK, h2.of_ints qn] at h1
      refine ⟨a, n :: ns, rfl, h1, by simp, fun m hm hy => ?_⟩
      have e : m = minL n ns := by have h3 := minL_le n ns m hm; have h4 := hy _ (minL_mem n ns); omega
      exact k.flat hs (by simp [Rel, e])
  case h_14 =>
    obtain ⟨ys, st1, e1, e2⟩ := bind_ok h
    obtain ⟨e, rfl⟩ := look_ok e1
    obtain ⟨zs, q, e⟩ := Option.bind_eq_some_iff.mp e
    obtain ⟨ns, qn, rfl⟩ := Option.map_eq_some_iff.mp e
    refine ⟨_, cr_sortedI, fun φ H xs Q hs r k => ?_⟩
    obtain ⟨x, rfl, rx⟩ := r.one_of
    obtain ⟨a, us, rfl, h1, h2⟩ := lstOf_rel hs q rx
    rw [← hK, h2.of_ints qn] at h1
    refine ⟨a, ns, rfl, h1, fun ns' p hp hw hn => ?_⟩
    rw [sorted_unique (hp.trans (sortInt_perm ns).symm) hw (sortInt_sorted ns)]
    exact k.lst e2 hs RelL.ints hn
  case h_15 => cases h
theorem gl_blt {x : Str} {u : Value} (C : CtxOk g X c bl fl) (hx : x ∈ bl) : X.mg x = none := C.blt x hx
def bltN : Bl → Str
  | .len => "len" | .abs => "abs" | .int => "int" | .list => "list" | .tuple => "tuple"
  | .max2 => "max" | .min2 => "min" | .sum => "sum" | .all => "all" | .any => "any"
  | .sorted => "sorted" | .max1 => "max" | .min1 => "min" | .str => "str" | .set_ => "set"
theorem rd_blt (C : CtxOk g X c bl fl) {b : Bl} {cell : Bool} {x : Str} {e : Expr} {es : List Expr} {ms : List Ex} {p pos : Pos} (hx : x = bltN b) (h : PA X (e :: es) (RdL g c ms)) (hn : (e :: es).all notStar = true) (hg : glB X.env.scope x = true) (hb : bl.contains x = true) : PE X (.Call (.Name x p) (e :: es) [] pos) (RdE g c (.blt cell b ms)) := by
  have hm := C.blt x (List.contains_iff_mem.mp hb)
  have hn' := hn
  rw [List.all_cons, Bool.and_eq_true] at hn'
  refine PE.of fun σ H Q ⟨φ, ρ, st, v, st', he, hs, ev, k⟩ => ?_
  have ev : (do let vs ← evalL c ms ρ; bltVal cell b vs : M Val) st = .ok v st' := ev
  obtain ⟨xs, st1, e1, ev⟩ := bind_ok ev
  obtain ⟨r, hr, hq⟩ := blt_rule C ev
  have fin : ∀ r', r' = r → tCB r' (RdL g c ms) σ H Q := fun r' e => by
    subst e
    exact seqL he hs e1 fun φ1 H1 ys s1 hs1 he1 r1 => hq φ1 H1 ys Q hs1 r1 (Kont.after k s1)
  subst hx
  cases b
  all_goals first
    | exact ⟨_, pe_callB hr (glB_ok hg) hm (by decide) h (by decide) (by decide) (star_cons hn'.1) (plain_args hn'.2), fin r rfl⟩
    | exact ⟨_, pe_callTy hr (glB_ok hg) hm (by decide) h (by decide) (by decide) (star_cons hn'.1) (plain_args hn'.2), fin r rfl⟩
    | skip
end
end Mn

end

section
set_option maxHeartbeats 1000000
/-! Mn: what is walked. -/
namespace Mn
open PySem PySem.Spec PyProof.Rows L2

section
variable {g : Gm} {c : Cf} {X : Cx} {bl fl : List Str}
/-- J walks the items of w, as long as w stays as it is -/
def Wk (g : Gm) (φ : Fm) (H : Hp) (w : Walked) (J : L2.It) : Prop := ∀ (φ2 : Fm) (H2 : Hp) (st2 : Store), Kp φ φ2 H H2 → RelSt g φ2 st2 H2 → w.still st2 = true →
  J.stop w.items.length H2 ∧ ∀ (i : Nat) (v : Val), w.items[i]? = some v → J.go i H2 ∧ ∀ x H3, J.yld i H2 x H3 → H3 = H2 ∧ Rel g φ2 H2 v x
/-- the reading of what is walked -/
def RdI (g : Gm) (c : Cf) (m : It) : TI := fun σ H R => ∃ φ ρ st w st', RelEnv g φ H ρ σ ∧ RelSt g φ st H ∧ evalI c m ρ st = .ok w st' ∧ ∀ φ' H' J, Step φ φ' H H' → RelSt g φ' st' H' → Wk g φ' H' w J → R J H'
theorem wk_list {φ : Fm} {H : Hp} {a : Addr} {w : Walked}
    (h : ∀ (φ2 : Fm) (H2 : Hp) (st2 : Store), Kp φ φ2 H H2 → RelSt g φ2 st2 H2 → w.still st2 = true → ∃ vs, SqL g.K H2 a vs ∧ RelL g φ2 H2 w.items vs) : Wk g φ H w (Itl g.K a) := by
  intro φ2 H2 st2 k hs hw
  obtain ⟨vs, h1, h2⟩ := h φ2 H2 st2 k hs hw
  refine ⟨⟨vs, h1, by rw [h2.length]; exact Nat.le_refl _⟩, fun i v e => ?_⟩
  obtain ⟨y, e2, r⟩ := h2.get e
  refine ⟨⟨vs, y, h1, e2⟩, fun x H3 hy => ⟨hy.1, ?_⟩⟩
  have := hy.2 vs h1
  rw [e2] at this
  cases this
  exact r
theorem wk_tup {φ : Fm} {H : Hp} {a : Addr} {w : Walked}
    (h : ∀ (φ2 : Fm) (H2 : Hp) (st2 : Store), Kp φ φ2 H H2 → RelSt g φ2 st2 H2 → w.still st2 = true → ∃ vs, SqT g.K H2 a vs ∧ RelL g φ2 H2 w.items vs) : Wk g φ H w (Itt g.K a) := by
  intro φ2 H2 st2 k hs hw
  obtain ⟨vs, h1, h2⟩ := h φ2 H2 st2 k hs hw
  refine ⟨⟨vs, h1, by rw [h2.length]; exact Nat.le_refl _⟩, fun i v e => ?_⟩
  obtain ⟨y, e2, r⟩ := h2.get e
  refine ⟨⟨vs, y, h1, e2⟩, fun x H3 hy => ⟨hy.1, ?_⟩⟩
  have := hy.2 vs h1
  rw [e2] at this
  cases this
  exact r
theorem RelL.getRev {φ : Fm} {H : Hp} {xs : List Val} {vs : List V} (r : RelL g φ H xs vs) {i : Nat} {v : Val} (e : xs.reverse[i]? = some v) : i < vs.length ∧ ∃ y, vs[vs.length - 1 - i]? = some y ∧ Rel g φ H v y := by
  have hi : i < xs.reverse.length := (List.getElem?_eq_some_iff.mp e).1
  rw [List.length_reverse] at hi
  rw [List.getElem?_reverse hi] at e
  rw [← r.length]
  exact ⟨hi, r.get e⟩
theorem wk_rev {φ : Fm} {H : Hp} {a : Addr} {w : Walked} {n : Nat} (hn : n = w.items.length)
    (h : ∀ (φ2 : Fm) (H2 : Hp) (st2 : Store), Kp φ φ2 H H2 → RelSt g φ2 st2 H2 → w.still st2 = true → ∃ vs, SqL g.K H2 a vs ∧ RelL g φ2 H2 w.items.reverse vs) : Wk g φ H w (Itv g.K a n) := by
  intro φ2 H2 st2 k hs hw
  obtain ⟨vs, h1, h2⟩ := h φ2 H2 st2 k hs hw
  have hl : vs.length = n := by rw [← h2.length, List.length_reverse, hn]
  refine ⟨by rw [hn]; exact Nat.le_refl _, fun i v e => ?_⟩
  have h3 := h2.getRev (i := i) (v := v) (by rw [List.reverse_reverse]; exact e)
  obtain ⟨hi, y, e2, r⟩ := h3
  rw [hl] at hi e2
  refine ⟨⟨hi, vs, y, h1, e2⟩, fun x H3 hy => ⟨hy.1, ?_⟩⟩
  have := hy.2 vs h1
  rw [e2] at this
  cases this
  exact r
theorem wk_revT {φ : Fm} {H : Hp} {a : Addr} {w : Walked} {n : Nat} (hn : n = w.items.length)
    (h : ∀ (φ2 : Fm) (H2 : Hp) (st2 : Store), Kp φ φ2 H H2 → RelSt g φ2 st2 H2 → w.still st2 = true → ∃ vs, SqT g.K H2 a vs ∧ RelL g φ2 H2 w.items.reverse vs) : Wk g φ H w (RT.ItvT g.K a n) := by
  intro φ2 H2 st2 k hs hw
  obtain ⟨vs, h1, h2⟩ := h φ2 H2 st2 k hs hw
  have hl : vs.length = n := by rw [← h2.length, List.length_reverse, hn]
  refine ⟨by rw [hn]; exact Nat.le_refl _, fun i v e => ?_⟩
  have h3 := h2.getRev (i := i) (v := v) (by rw [List.reverse_reverse]; exact e)
  obtain ⟨hi, y, e2, r⟩ := h3
  rw [hl] at hi e2
  refine ⟨⟨hi, vs, y, h1, e2⟩, fun x H3 hy => ⟨hy.1, ?_⟩⟩
  have := hy.2 vs h1
  rw [e2] at this
  cases this
  exact r
theorem wk_str {φ : Fm} {H : Hp} {z : Str} {o : Option Nat} {b : Bool} : Wk g φ H ⟨z.cps.toList.map fun c => .str ⟨#[c]⟩, o, b⟩ (Its z) := by
  intro φ2 H2 st2 k hs hw
  refine ⟨by show z.cps.size ≤ _; simp, fun i v e => ?_⟩
  rw [List.getElem?_map] at e
  obtain ⟨ch, e2, rfl⟩ := Option.map_eq_some_iff.mp e
  rw [Array.getElem?_toList] at e2
  refine ⟨(Array.getElem?_eq_some_iff.mp e2).1, fun x H3 hy => ⟨hy.1, ?_⟩⟩
  obtain ⟨ch', e3, rfl⟩ := hy.2
  rw [e2] at e3; cases e3
  simp [Rel]
theorem wk_rng {φ : Fm} {H : Hp} {lo : Int} {n : Nat} {o : Option Nat} {b : Bool} : Wk g φ H ⟨rngVals lo n, o, b⟩ (Itr lo n) := by
  intro φ2 H2 st2 k hs hw
  refine ⟨by show n ≤ _; simp [rngVals], fun i v e => ?_⟩
  unfold rngVals at e
  rw [List.getElem?_map] at e
  obtain ⟨t, e2, rfl⟩ := Option.map_eq_some_iff.mp e
  obtain ⟨hi, e3⟩ := List.getElem?_eq_some_iff.mp e2
  rw [List.length_range] at hi
  rw [List.getElem_range] at e3
  subst e3
  refine ⟨hi, fun x H3 hy => ⟨hy.1, ?_⟩⟩
  rw [hy.2]
  simp [Rel]
theorem wk_rngD {φ : Fm} {H : Hp} {lo : Int} {n : Nat} {o : Option Nat} {b : Bool} : Wk g φ H ⟨(List.range n).map fun t => .int (lo - (t : Nat)), o, b⟩ (Itc lo (-1) n) := by
  intro φ2 H2 st2 k hs hw
  refine ⟨by show n ≤ _; simp, fun i v e => ?_⟩
  rw [List.getElem?_map] at e
  obtain ⟨t, e2, rfl⟩ := Option.map_eq_some_iff.mp e
  obtain ⟨hi, e3⟩ := List.getElem?_eq_some_iff.mp e2
  rw [List.length_range] at hi
  rw [List.getElem_range] at e3
  subst e3
  refine ⟨hi, fun x H3 hy => ⟨hy.1, ?_⟩⟩
  rw [hy.2]
  simp only [Rel]
  congr 1
  omega
/-- a list, as it stands later -/
theorem lst_later {φ : Fm} {H : Hp} {v : Val} {x : V} {xs : List Val} (hv : ∀ i, v ≠ .ref i) (e : ∀ st, lstOf st v = some xs) (r : Rel g φ H v x) : ∃ a, x = .ref a ∧ (∃ vs, SqL g.K H a vs ∧ RelL g φ H xs vs) ∧ ∀ (φ2 : Fm) (H2 : Hp), Kp φ φ2 H H2 → ∃ vs, SqL g.K H2 a vs ∧ RelL g φ2 H2 xs vs := by
  have e0 := e []
  cases v <;> simp only [lstOf] at e0 <;> first | (cases e0; done) | skip
  · cases e0
    simp only [Rel] at r
    obtain ⟨a, vs, rfl, n, ha, r⟩ := r
    exact ⟨a, rfl, ⟨vs, SqL.of ha, r⟩, fun φ2 H2 k => ⟨vs, SqL.of (k.keep _ _ ha n), RelL.monoK k _ _ r⟩⟩
  · cases e0
    simp only [Rel] at r
    obtain ⟨a, vs, rfl, h, r⟩ := r
    refine ⟨a, rfl, ⟨vs, ?_, r⟩, fun φ2 H2 k => ⟨vs, ?_, RelL.monoK k _ _ r⟩⟩
    · rcases h with h | ⟨_, o, h⟩
      · exact h H
      · exact .inl (.inr ⟨o, h⟩)
    · rcases h with h | ⟨n, o, h⟩
      · exact h H2
      · exact .inl (.inr ⟨o, k.keep _ _ h n⟩)
theorem tup_later {φ : Fm} {H : Hp} {v : Val} {x : V} {xs : List Val} (e : tupOf v = some xs) (r : Rel g φ H v x) : ∃ a, x = .ref a ∧ (∃ vs, SqT g.K H a vs ∧ RelL g φ H xs vs) ∧ ∀ (φ2 : Fm) (H2 : Hp), Kp φ φ2 H H2 → ∃ vs, SqT g.K H2 a vs ∧ RelL g φ2 H2 xs vs := by
  cases v <;> simp only [tupOf] at e <;> first | (cases e; done) | skip
  · cases e
    simp only [Rel] at r
    obtain ⟨a, vs, rfl, n, ha, r⟩ := r
    exact ⟨a, rfl, ⟨vs, SqT.of ha, r⟩, fun φ2 H2 k => ⟨vs, SqT.of (k.keep _ _ ha n), RelL.monoK k _ _ r⟩⟩
  · cases e
    simp only [Rel] at r
    obtain ⟨a, vs, rfl, h, r⟩ := r
    exact ⟨a, rfl, ⟨vs, h H, r⟩, fun φ2 H2 k => ⟨vs, h H2, RelL.monoK k _ _ r⟩⟩
theorem cell_later {φ : Fm} {H : Hp} {i : Nat} {x : V} {xs : List Val} {st : Store} (hs : RelSt g φ st H) (e : st[i]? = some (.lst xs)) (r : Rel g φ H (.ref i) x) : ∃ a, x = .ref a ∧ (∃ vs, SqL g.K H a vs ∧ RelL g φ H xs vs) ∧
    ∀ (φ2 : Fm) (H2 : Hp) (st2 : Store), Kp φ φ2 H H2 → RelSt g φ2 st2 H2 → st2[i]? = some (.lst xs) → ∃ vs, SqL g.K H2 a vs ∧ RelL g φ2 H2 xs vs := by
  simp only [Rel] at r
  obtain ⟨a, rfl, ha⟩ := r
  obtain ⟨vs, h1, h2⟩ := hs.at_ i a _ ha e
  refine ⟨a, rfl, ⟨vs, SqL.of h1, h2⟩, fun φ2 H2 st2 k hs2 e2 => ?_⟩
  obtain ⟨vs2, h3, h4⟩ := hs2.at_ i a _ (k.get ha) e2
  exact ⟨vs2, SqL.of h3, h4⟩
/-- iter(x), by values -/
def PIr (X : Cx) (r : V → Hp → (L2.It → Hp → Prop) → Prop) : Prop := ∀ (tg e : Expr) (te : TE), PE X e te → PI X tg e (fun σ H R => te σ H fun x H1 => r x H1 R)
theorem walk_rule {v : Val} {w : Walked} {st : Store} (hK : X.K = g.K) (h : walkOf v st = some w) : ∃ r, PIr X r ∧ ∀ φ H x R, RelSt g φ st H → Rel g φ H v x → (∀ J, Wk g φ H w J → R J H) → r x H R := by
  unfold walkOf at h
  split at h
  · rename_i z
    cases h
    refine ⟨_, fun tg e te pe => pi_str pe, fun φ H x R hs rx k => ?_⟩
    simp only [Rel] at rx
    exact ⟨z, rx, k _ wk_str⟩
  · rename_i i
    split at h
    · rename_i xs q
      split at h
      · cases h
        refine ⟨_, fun tg e te pe => pi_list pe, fun φ H x R hs rx k => ?_⟩
        obtain ⟨a, rfl, ⟨vs, h1, _⟩, h3⟩ := cell_later hs q rx
        refine ⟨a, rfl, ⟨vs, by rw [hK]; exact h1⟩, by rw [hK]; exact k _ (wk_list fun φ2 H2 st2 kp hs2 hw => h3 φ2 H2 st2 kp hs2 (by simpa [Walked.still] using hw))⟩
      · cases h
    · cases h
  · rename_i hv1 hv2
    obtain ⟨xs, q, h⟩ := Option.bind_eq_some_iff.mp h
    split at h
    · cases h
      unfold seqOf at q
      cases et : tupOf v with
      | some ys =>
        rw [et] at q; cases q
        refine ⟨_, fun tg e te pe => pi_tup pe, fun φ H x R hs rx k => ?_⟩
        obtain ⟨a, rfl, ⟨vs, h1, _⟩, h3⟩ := tup_later et rx
        exact ⟨a, rfl, ⟨vs, by rw [hK]; exact h1⟩, by rw [hK]; exact k _ (wk_tup fun φ2 H2 st2 kp hs2 hw => h3 φ2 H2 kp)⟩
      | none =>
        rw [et] at q
        have q' : ∀ st, lstOf st v = some xs := fun st' => by
          cases v <;> first | exact q | exact absurd rfl (hv2 _)
        refine ⟨_, fun tg e te pe => pi_list pe, fun φ H x R hs rx k => ?_⟩
        obtain ⟨a, rfl, ⟨vs, h1, _⟩, h3⟩ := lst_later hv2 q' rx
        exact ⟨a, rfl, ⟨vs, by rw [hK]; exact h1⟩, by rw [hK]; exact k _ (wk_list fun φ2 H2 st2 kp hs2 hw => h3 φ2 H2 kp)⟩
    · cases h
theorem rdI_of (C : CtxOk g X c bl fl) {e tg : Expr} {m : Ex} (he : PE X e (RdE g c m)) : PI X tg e (RdI g c (.of m)) :=
  PI.of fun σ H R ⟨φ, ρ, st, w, st', hre, hs, ev, k⟩ => by
    have ev : (do let v ← evalE c m ρ; look (walkOf v) : M Walked) st = .ok w st' := ev
    obtain ⟨x, st1, e1, ev⟩ := bind_ok ev
    obtain ⟨e2, rfl⟩ := look_ok ev
    obtain ⟨r, hr, hq⟩ := walk_rule C.K e2
    exact ⟨_, hr tg e _ he, seq1 hre hs e1 fun φ1 H1 x' s1 hs1 he1 r1 => hq φ1 H1 x' R hs1 r1 fun J hj => k φ1 H1 J s1 hs1 hj⟩
theorem rdI_rng1 (C : CtxOk g X c bl fl) {a tg : Expr} {m : Ex} {p pos : Pos} (hg : glB X.env.scope "range" = true) (hb : bl.contains "range" = true) (ha : PA X [a] (RdL g c [m])) (hn : notStar a = true) : PI X tg (.Call (.Name "range" p) [a] [] pos) (RdI g c (.rng [m])) :=
  PI.of fun σ H R ⟨φ, ρ, st, w, st', hre, hs, ev, k⟩ => by
    have ev : (do let vs ← evalL c [m] ρ; lift (rngWalk vs) : M Walked) st = .ok w st' := ev
    obtain ⟨xs, st1, e1, ev⟩ := bind_ok ev
    obtain ⟨e2, rfl⟩ := lift_ok ev
    refine ⟨_, pi_range1 (glB_ok hg) (C.blt _ (List.contains_iff_mem.mp hb)) ha (star_cons hn), seqL hre hs e1 fun φ1 H1 x' s1 hs1 he1 r1 => ?_⟩
    have hl : xs.length = 1 := by
      have e1 : (do let v ← evalE c m ρ; let vs ← evalL c [] ρ; pure (v :: vs) : M (List Val)) st = .ok xs st1 := e1
      obtain ⟨u, st2, e3, e1⟩ := bind_ok e1
      obtain ⟨us, st3, e4, e1⟩ := bind_ok e1
      obtain ⟨rfl, rfl⟩ := pure_ok e4
      obtain ⟨rfl, rfl⟩ := pure_ok e1
      rfl
    match xs, hl, e2, r1 with
    | [v], _, e2, r1 =>
      obtain ⟨y, rfl, ry⟩ := r1.one_of
      have e2 : (rngOf [v]).map (fun r => (⟨rngVals r.1 r.2, none, false⟩ : Walked)) = some w := by
        cases v <;> exact e2
      obtain ⟨⟨lo, n⟩, e3, rfl⟩ := Option.map_eq_some_iff.mp e2
      cases v <;> simp only [rngOf] at e3 <;> first | (cases e3; done) | skip
      split at e3
      · rename_i j hj
        cases e3
        simp only [Bool.and_eq_true, decide_eq_true_eq] at hj
        simp only [Rel] at ry
        subst ry
        exact ⟨_, rfl, hj.1, hj.2.1, k _ _ _ s1 hs1 wk_rng⟩
      · cases e3
theorem evalL2 {m n : Ex} {ρ : Env} {st st' : Store} {xs : List Val} (e : evalL c [m, n] ρ st = .ok xs st') : ∃ u v, xs = [u, v] := by
  have e : (do let v ← evalE c m ρ; let vs ← evalL c [n] ρ; pure (v :: vs) : M (List Val)) st = .ok xs st' := e
  obtain ⟨u, st2, e3, e⟩ := bind_ok e
  obtain ⟨us, st3, e4, e⟩ := bind_ok e
  obtain ⟨rfl, rfl⟩ := pure_ok e
  have e4 : (do let v ← evalE c n ρ; let vs ← evalL c [] ρ; pure (v :: vs) : M (List Val)) _ = .ok us _ := e4
  obtain ⟨u', st4, e5, e4⟩ := bind_ok e4
  obtain ⟨us', st5, e6, e4⟩ := bind_ok e4
  obtain ⟨rfl, rfl⟩ := pure_ok e6
  obtain ⟨rfl, rfl⟩ := pure_ok e4
  exact ⟨_, _, rfl⟩
theorem evalL3 {m n o : Ex} {ρ : Env} {st st' : Store} {xs : List Val} (e : evalL c [m, n, o] ρ st = .ok xs st') : ∃ u v w, xs = [u, v, w] := by
  have e : (do let v ← evalE c m ρ; let vs ← evalL c [n, o] ρ; pure (v :: vs) : M (List Val)) st = .ok xs st' := e
  obtain ⟨u, st2, e3, e⟩ := bind_ok e
  obtain ⟨us, st3, e4, e⟩ := bind_ok e
  obtain ⟨rfl, rfl⟩ := pure_ok e
  obtain ⟨v, w, rfl⟩ := evalL2 e4
  exact ⟨_, _, _, rfl⟩
theorem RelL.three_of {φ : Fm} {H : Hp} {u v w : Val} {xs : List V} (r : RelL g φ H [u, v, w] xs) : ∃ x y z, xs = [x, y, z] ∧ Rel g φ H u x ∧ Rel g φ H v y ∧ Rel g φ H w z := by
  simp only [RelL] at r
  obtain ⟨x, s, rfl, h, y, t, rfl, h2, z, _, rfl, h3, rfl⟩ := r
  exact ⟨x, y, z, rfl, h, h2, h3⟩
theorem rdI_rng2 (C : CtxOk g X c bl fl) {a b tg : Expr} {m n : Ex} {p pos : Pos} (hg : glB X.env.scope "range" = true) (hb : bl.contains "range" = true) (ha : PA X [a, b] (RdL g c [m, n])) (hn : notStar a = true) (hn2 : notStar b = true) : PI X tg (.Call (.Name "range" p) [a, b] [] pos) (RdI g c (.rng [m, n])) :=
  PI.of fun σ H R ⟨φ, ρ, st, w, st', hre, hs, ev, k⟩ => by
    have ev : (do let vs ← evalL c [m, n] ρ; lift (rngWalk vs) : M Walked) st = .ok w st' := ev
    obtain ⟨xs, st1, e1, ev⟩ := bind_ok ev
    obtain ⟨e2, rfl⟩ := lift_ok ev
    refine ⟨_, pi_range2 (glB_ok hg) (C.blt _ (List.contains_iff_mem.mp hb)) ha (by rw [star_cons hn, star_cons hn2]; rfl) (by rw [star_cons hn2]; rfl), seqL hre hs e1 fun φ1 H1 x' s1 hs1 he1 r1 => ?_⟩
    obtain ⟨u, v, rfl⟩ := evalL2 e1
    obtain ⟨y, z, rfl, ry, rz⟩ := r1.two_of
    have e2 : (rngOf [u, v]).map (fun r => (⟨rngVals r.1 r.2, none, false⟩ : Walked)) = some w := by
      cases u <;> cases v <;> exact e2
    obtain ⟨⟨lo, k'⟩, e3, rfl⟩ := Option.map_eq_some_iff.mp e2
    cases u <;> cases v <;> simp only [rngOf] at e3 <;> first | (cases e3; done) | skip
    split at e3
    · rename_i i j hj
      cases e3
      simp only [Bool.and_eq_true, decide_eq_true_eq] at hj
      simp only [Rel] at ry rz
      subst ry rz
      exact ⟨_, _, rfl, ⟨hj.1, hj.2.1, hj.2.2.1, hj.2.2.2.1⟩, k _ _ _ s1 hs1 wk_rng⟩
    · cases e3
theorem rdI_rng3 (C : CtxOk g X c bl fl) {a b d tg : Expr} {m n o : Ex} {p pos : Pos} (hg : glB X.env.scope "range" = true) (hb : bl.contains "range" = true) (ha : PA X [a, b, d] (RdL g c [m, n, o])) (hn : notStar a = true) (hn2 : [b, d].all notStar = true) : PI X tg (.Call (.Name "range" p) [a, b, d] [] pos) (RdI g c (.rng [m, n, o])) :=
  PI.of fun σ H R ⟨φ, ρ, st, w, st', hre, hs, ev, k⟩ => by
    have ev : (do let vs ← evalL c [m, n, o] ρ; lift (rngWalk vs) : M Walked) st = .ok w st' := ev
    obtain ⟨xs, st1, e1, ev⟩ := bind_ok ev
    obtain ⟨e2, rfl⟩ := lift_ok ev
    refine ⟨_, pi_range3 (glB_ok hg) (C.blt _ (List.contains_iff_mem.mp hb)) ha (star_cons hn) (plain_args hn2), seqL hre hs e1 fun φ1 H1 x' s1 hs1 he1 r1 => ?_⟩
    obtain ⟨u, v, t, rfl⟩ := evalL3 e1
    obtain ⟨x, y, z, rfl, rx, ry, rz⟩ := r1.three_of
    unfold rngWalk at e2
    split at e2
    · rename_i i j q e4
      cases e4
      split at e2
      · rename_i hj
        cases e2
        simp only [Bool.and_eq_true, decide_eq_true_eq] at hj
        simp only [Rel] at rx ry rz
        subst rx ry rz
        obtain ⟨rfl, h1, h2, h3, h4, _⟩ := hj
        exact ⟨i, j, -1, _, rfl, RgC.neg h1 h2 h3 h4, k _ _ _ s1 hs1 wk_rngD⟩
      · cases e2
    · obtain ⟨r, e3, _⟩ := Option.map_eq_some_iff.mp e2
      simp only [rngOf] at e3
      cases e3
theorem rdI_rev (C : CtxOk g X c bl fl) {a tg : Expr} {m : Ex} {p pos : Pos} (hg : glB X.env.scope "reversed" = true) (hb : bl.contains "reversed" = true) (ha : PE X a (RdE g c m)) (hn : notStar a = true) : PI X tg (.Call (.Name "reversed" p) [a] [] pos) (RdI g c (.rev m)) :=
  PI.of fun σ H R ⟨φ, ρ, st, w, st', hre, hs, ev, k⟩ => by
    have ev : (do let v ← evalE c m ρ; look (walkBack v) : M Walked) st = .ok w st' := ev
    obtain ⟨v, st1, e1, ev⟩ := bind_ok ev
    obtain ⟨e2, rfl⟩ := look_ok ev
    refine ⟨_, RT.pi_revA (glB_ok hg) (C.blt _ (List.contains_iff_mem.mp hb)) ha (star_cons hn), seq1 hre hs e1 fun φ1 H1 x' s1 hs1 he1 r1 => ?_⟩
    have hK := C.K
    unfold walkBack at e2
    split at e2
    · cases e2
    · rename_i hv1
      obtain ⟨w0, e3, rfl⟩ := Option.map_eq_some_iff.mp e2
      unfold walkOf at e3
      split at e3
      · exact absurd rfl (hv1 _)
      · rename_i i
        split at e3
        · rename_i xs q
          split at e3
          · cases e3
            obtain ⟨a', rfl, ⟨vs, h1, h2⟩, h3⟩ := cell_later hs1 q r1
            rw [hK]
            refine ⟨a', vs, rfl, .inl ⟨h1, k _ _ _ s1 hs1 (wk_rev (by rw [List.length_reverse, h2.length]) fun φ2 H2 st2 kp hs2 hw => ?_)⟩⟩
            show ∃ vs, SqL g.K H2 a' vs ∧ RelL g φ2 H2 xs.reverse.reverse vs
            rw [List.reverse_reverse]
            exact h3 φ2 H2 st2 kp hs2 (by simpa [Walked.still] using hw)
          · cases e3
        · cases e3
      · rename_i hv1 hv2
        obtain ⟨xs, q, h⟩ := Option.bind_eq_some_iff.mp e3
        split at h
        · cases h
          unfold seqOf at q
          cases et : tupOf v with
          | some ys =>
            rw [et] at q; cases q
            obtain ⟨a', rfl, ⟨vs, h1, h2⟩, h3⟩ := tup_later et r1
            rw [hK]
            refine ⟨a', vs, rfl, .inr ⟨h1, k _ _ _ s1 hs1 (wk_revT (by rw [List.length_reverse, h2.length]) fun φ2 H2 st2 kp hs2 hw => ?_)⟩⟩
            rw [List.reverse_reverse]
            exact h3 φ2 H2 kp
          | none =>
            rw [et] at q
            have q' : ∀ st, lstOf st v = some xs := fun st' => by
              cases v <;> first | exact q | exact absurd rfl (hv2 _)
            obtain ⟨a', rfl, ⟨vs, h1, h2⟩, h3⟩ := lst_later hv2 q' r1
            rw [hK]
            refine ⟨a', vs, rfl, .inl ⟨h1, k _ _ _ s1 hs1 (wk_rev (by rw [List.length_reverse, h2.length]) fun φ2 H2 st2 kp hs2 hw => ?_)⟩⟩
            rw [List.reverse_reverse]
            exact h3 φ2 H2 kp
        · cases h
end
end Mn

end

section
set_option maxHeartbeats 1000000
/-! Mn: comprehensions. -/
namespace Mn
open PySem PySem.Spec PyProof.Rows L2

theorem wipe_get {σ : L2.St} : ∀ {vs : List Nat} {j : Nat}, (L2.wipe σ vs)[j]? = if j ∈ vs then (if j < σ.length then some none else none) else σ[j]?
  | [], j => by simp [L2.wipe]
  | v :: vs, j => by
    simp only [L2.wipe]
    rw [List.getElem?_set, wipe_length, wipe_get]
    by_cases h : v = j
    · subst h
      simp
    · have h' : ¬ j = v := fun e => h e.symm
      simp [h, h']
theorem wipe_set {σ : L2.St} {vs : List Nat} {i : Nat} {x : Option V} (h : i ∈ vs) : L2.wipe (σ.set i x) vs = L2.wipe σ vs := by
  refine List.ext_getElem? fun j => ?_
  rw [wipe_get, wipe_get, List.length_set]
  by_cases hj : j ∈ vs
  · simp [hj]
  · have : i ≠ j := fun e => hj (e ▸ h)
    simp [hj, List.getElem?_set_ne this]
theorem wipe_wipe {σ : L2.St} {vs : List Nat} : L2.wipe (L2.wipe σ vs) vs = L2.wipe σ vs := by
  refine List.ext_getElem? fun j => ?_
  rw [wipe_get, wipe_get, wipe_length]
  by_cases hj : j ∈ vs <;> simp [hj]

section
variable {g : Gm} {c : Cf} {X : Cx} {bl fl : List Str}
theorem CtxOk.blk (C : CtxOk g X c bl fl) (s : Shared) (H : Hp) (scope : Scope) (env : PySem.Env) (fp : List Addr) : CtxOk g (X.blk s H scope env fp) c bl fl :=
  ⟨C.K, C.w, C.calm, C.nd, C.hu, C.call, C.meth, C.make, C.glob, C.blt, C.fld⟩
/-! ### targets of walks -/
def stB (X : Cx) (x : Str) : Bool := match X.env.scope.names.lookup x with
  | some .local => true
  | some .cell => X.fn x
  | _ => false
theorem stB_ok {x : Str} (h : stB X x = true) : Loc X.env.scope x ∧ (X.fn x = true ∨ X.env.scope.names.lookup x = some .local) := by
  unfold stB at h
  split at h
  · rename_i e; exact ⟨.inl e, .inr e⟩
  · rename_i e; exact ⟨.inr e, .inl h⟩
  · cases h
def RdG (g : Gm) (t : Tg) : TG := fun x σ H Q => ∃ φ ρ v ρ', RelEnv g φ H ρ σ ∧ Rel g φ H v x ∧ bindTg t v ρ = some ρ' ∧ ∀ σ', RelEnv g φ H ρ' σ' → (∀ vs, (∀ i ∈ tgSlots t, i ∈ vs) → L2.wipe σ' vs = L2.wipe σ vs) → Q σ' H
def RdGs (g : Gm) (is : List Nat) : TGs := fun xs σ H Q => ∃ φ ρ vs ρ', RelEnv g φ H ρ σ ∧ RelL g φ H vs xs ∧ setAll is vs ρ = some ρ' ∧ ∀ σ', RelEnv g φ H ρ' σ' → (∀ vs, (∀ i ∈ is, i ∈ vs) → L2.wipe σ' vs = L2.wipe σ vs) → Q σ' H
theorem PG.of {e : Expr} {t : TG} (h : ∀ v σ H Q, t v σ H Q → ∃ t', PG X e t' ∧ t' v σ H Q) : PG X e t :=
  ⟨fun pins s σ H v u Q I r q => let ⟨_, p, z⟩ := h v σ H Q q; p.run pins s σ H v u Q I r z⟩
theorem PGs.of {e : List Expr} {t : TGs} (h : ∀ v σ H Q, t v σ H Q → ∃ t', PGs X e t' ∧ t' v σ H Q) : PGs X e t :=
  ⟨fun pins s σ H v u Q I r q => let ⟨_, p, z⟩ := h v σ H Q q; p.run pins s σ H v u Q I r z⟩
theorem rg_nm (hN : X.N.Nodup) {i : Nat} {x : Str} {pos : Pos} (hi : X.N[i]? = some x) (hs : stB X x = true) : PG X (.Name x pos) (RdG g (.nm i)) :=
  PG.of fun x σ H Q ⟨φ, ρ, v, ρ', he, rv, e, k⟩ => by
    cases e
    exact ⟨_, pg_name hN hi (stB_ok hs).1 (stB_ok hs).2, k _ (he.set rv i) fun vs hv => wipe_set (hv i (by simp [tgSlots]))⟩
theorem rgs_nil : PGs X [] (RdGs g []) :=
  PGs.of fun xs σ H Q ⟨φ, ρ, vs, ρ', he, rv, e, k⟩ => by
    cases vs with
    | nil =>
      cases e
      simp only [RelL] at rv
      subst rv
      exact ⟨_, pgs_nil, rfl, k _ he fun _ _ => rfl⟩
    | cons v vs => cases e
theorem rgs_cons (hN : X.N.Nodup) {i : Nat} {is : List Nat} {x : Str} {pos : Pos} {es : List Expr} (hi : X.N[i]? = some x) (hs : stB X x = true) (h : PGs X es (RdGs g is)) : PGs X (.Name x pos :: es) (RdGs g (i :: is)) :=
  PGs.of fun xs σ H Q ⟨φ, ρ, vs, ρ', he, rv, e, k⟩ => by
    cases vs with
    | nil => cases e
    | cons v vs =>
      simp only [RelL] at rv
      obtain ⟨y, t, rfl, h1, h2⟩ := rv
      refine ⟨_, pgs_cons (pg_name hN hi (stB_ok hs).1 (stB_ok hs).2) h, y, t, rfl, φ, _, vs, ρ', he.set h1 i, h2, e, fun σ' he' hw => k σ' he' fun ws hws => ?_⟩
      rw [hw ws fun j hj => hws j (List.mem_cons_of_mem _ hj)]
      exact wipe_set (hws i (List.mem_cons_self ..))
theorem rg_nms (C : CtxOk g X c bl fl) {is : List Nat} {es : List Expr} {k : Nat} {pos : Pos} (hl : es.length = is.length) (h : PGs X es (RdGs g is)) (hn : (assignEach es X.env).length = es.length) (hst : (assignEach es X.env).findIdx? (·.1) = none) : PG X (.Tuple es k pos) (RdG g (.nms is)) :=
  PG.of fun x σ H Q ⟨φ, ρ, v, ρ', he, rv, e, k⟩ => by
    obtain ⟨xs, e1, e2⟩ := Option.bind_eq_some_iff.mp e
    obtain ⟨a, vs, rfl, h1, h2⟩ := tupOf_rel e1 rv
    have hlen : ∀ {is : List Nat} {xs : List Val} {ρ ρ' : Env}, setAll is xs ρ = some ρ' → is.length = xs.length := by
      intro is
      induction is with
      | nil => intro xs ρ ρ' e; cases xs <;> first | rfl | cases e
      | cons i is ih => intro xs ρ ρ' e; cases xs with
        | nil => cases e
        | cons x xs => simp only [List.length_cons]; rw [ih e]
    refine ⟨_, pg_tup C.calm h hn hst, a, vs, rfl, by rw [C.K]; exact h1, by rw [← h2.length, ← hlen e2, hl], φ, ρ, xs, ρ', he, h2, e2, k⟩

/-! ### tests -/
abbrev RdTs (g : Gm) (c : Cf) (ms : List Ex) : TT := Rd g RelB (evalT c ms)
theorem PTs.of {e : List Expr} {t : TT} (h : ∀ σ H Q, t σ H Q → ∃ t', PTs X e t' ∧ t' σ H Q) : PTs X e t :=
  ⟨fun pins s σ H Q I q => let ⟨_, p, z⟩ := h σ H Q q; p.run pins s σ H Q I z⟩
theorem rts_nil : PTs X [] (RdTs g c []) :=
  PTs.of fun σ H Q ⟨φ, ρ, st, v, st', he, hs, ev, k⟩ => by
    obtain ⟨rfl, rfl⟩ := pure_ok ev
    exact ⟨_, pts_nil, k φ H true (Step.refl _ _) hs rfl⟩
theorem rts_one {e : Expr} {m : Ex} (h : PT X e (RdT g c m)) : PTs X [e] (RdTs g c [m]) :=
  PTs.of fun σ H Q ⟨φ, ρ, st, v, st', he, hs, ev, k⟩ => by
    have ev : (do let v ← evalE c m ρ; let t ← look (truthy v); (match t with | true => evalT c [] ρ | false => pure false) : M Bool) st = .ok v st' := ev
    obtain ⟨x, st1, e1, ev⟩ := bind_ok ev
    obtain ⟨t, st2, e2, ev⟩ := bind_ok ev
    refine ⟨_, pts_one h, φ, ρ, st, t, st2, he, hs, ?_, fun φ' H' x' s1 hs1 e => ?_⟩
    · show (do let v ← evalE c m ρ; look (truthy v) : M Bool) st = _
      rw [bind_eq e1]; exact e2
    · have h3 : v = t ∧ st' = st2 := by
        cases t with
        | true => obtain ⟨h1, h2⟩ := pure_ok ev; exact ⟨h1.symm, h2.symm⟩
        | false => obtain ⟨h1, h2⟩ := pure_ok ev; exact ⟨h1.symm, h2.symm⟩
      obtain ⟨rfl, rfl⟩ := h3
      exact k φ' H' x' s1 hs1 e

/-! ### the gathered list -/
/-- from the heap before the list at D is laid -/
structure StepX (D : Addr) (φ φ' : Fm) (H H' : Hp) : Prop where
  pre : φ.cells <+: φ'.cells
  hid : φ'.hid = D :: φ.hid
  new : ∀ a ∈ φ'.cells, a ∉ φ.cells → H a = none
  keep : ∀ b o, H b = some o → b ∉ φ.cells → H' b = some o
  none : H D = none
theorem StepX.step {D : Addr} {φ φ' φ2 : Fm} {H H' H2 : Hp} (s : StepX D φ φ' H H') (t : Step φ' φ2 H' H2) : StepX D φ φ2 H H2 := by
  have out : ∀ b o, H b = some o → b ∉ φ.cells → b ∉ φ'.cells := fun b o h n m => by rw [s.new b m n] at h; cases h
  refine ⟨s.pre.trans t.pre, t.hid.trans s.hid, fun a h n => ?_, fun b o h n => t.keep b o (s.keep b o h n) (out b o h n), s.none⟩
  by_cases m : a ∈ φ'.cells
  · exact s.new a m n
  · cases e : H a with
    | none => rfl
    | some o =>
      have := s.keep a o e n
      rw [t.new a h m] at this; cases this
theorem StepX.put {D : Addr} {φ φ' : Fm} {H H' : Hp} {o : HO} (s : StepX D φ φ' H H') : StepX D φ φ' H (upd H' D o) :=
  ⟨s.pre, s.hid, s.new, fun b u h n => by rw [upd_ne (fun e => by subst e; rw [s.none] at h; cases h)]; exact s.keep b u h n, s.none⟩
theorem StepX.start {D : Addr} {φ : Fm} {H : Hp} {o : HO} (h : H D = Option.none) : StepX D φ (φ.hide D) H (upd H D o) :=
  ⟨List.prefix_refl _, rfl, fun a m n => absurd m n, fun b u hb n => by rw [upd_ne (ne_of_none hb h)]; exact hb, h⟩
theorem StepX.kp {D : Addr} {φ φ' : Fm} {H H' : Hp} (s : StepX D φ φ' H H') : Kp φ φ' H H' :=
  ⟨s.pre, fun b o h n => s.keep b o h (Fm.not_mem n).1, fun b o h n => Fm.not_mem' (fun m => by rw [s.new b m (Fm.not_mem n).1] at h; cases h) (by
    rw [s.hid]
    intro m
    rcases List.mem_cons.mp m with m | m
    · subst m; rw [s.none] at h; cases h
    · exact (Fm.not_mem n).2 m)⟩
theorem StepX.fin {D : Addr} {φ φ' : Fm} {H H' : Hp} (s : StepX D φ φ' H H') : Step φ ⟨φ'.cells, φ.hid⟩ H H' := ⟨s.pre, rfl, s.new, s.keep⟩
/-- the list at D holds accV -/
structure Acc (g : Gm) (D : Addr) (φ : Fm) (H : Hp) (φi : Fm) (sti : Store) (Hi : Hp) (accV : List Val) : Prop where
  s : StepX D φ φi H Hi
  st : RelSt g φi sti Hi
  at_ : ∃ acc, Hi D = some (.lst acc) ∧ RelL g φi Hi accV acc
theorem Acc.start {D : Addr} {φ : Fm} {H : Hp} {st : Store} (hs : RelSt g φ st H) (h : H D = none) : Acc g D φ H (φ.hide D) st (upd H D (.lst [])) [] :=
  ⟨StepX.start h, hs.hide h, [], upd_same, by simp [RelL]⟩
theorem Acc.mem {D : Addr} {φ φi : Fm} {H Hi : Hp} {sti : Store} {accV : List Val} (A : Acc g D φ H φi sti Hi accV) : D ∈ φi.hid := by rw [A.s.hid]; exact List.mem_cons_self ..
theorem Acc.step {D : Addr} {φ φi φ2 : Fm} {H Hi H2 : Hp} {sti st2 : Store} {accV : List Val} (A : Acc g D φ H φi sti Hi accV) (t : Step φi φ2 Hi H2) (hs : RelSt g φ2 st2 H2) : Acc g D φ H φ2 st2 H2 accV := by
  obtain ⟨acc, h1, h2⟩ := A.at_
  exact ⟨A.s.step t, hs, acc, t.keep _ _ h1 (A.st.dis D A.mem), RelL.mono t _ _ h2⟩
theorem Acc.put {D : Addr} {φ φi : Fm} {H Hi : Hp} {sti : Store} {accV : List Val} {v : Val} {y : V} (A : Acc g D φ H φi sti Hi accV) (r : Rel g φi Hi v y) : ∃ acc, Hi D = some (.lst acc) ∧ accV.length = acc.length ∧ Acc g D φ H φi sti (upd Hi D (.lst (acc ++ [y]))) (accV ++ [v]) := by
  obtain ⟨acc, h1, h2⟩ := A.at_
  refine ⟨acc, h1, h2.length, A.s.put, A.st.putH A.mem, _, upd_same, RelL.monoK (Kp.put A.mem) _ _ (h2.append (RelL.one r))⟩
/-- the end: the hidden object is shown, by value or as a cell -/
theorem StepX.done {D : Addr} {φ φi : Fm} {H Hi : Hp} {sti st0 st' : Store} {ob : Obj} {u v : Val} {cell : Bool} {Q : VK} (s : StepX D φ φi H Hi) (st : RelSt g φi sti Hi) (hs0 : RelSt g φ st0 H) (hob : ObjR g φi Hi D ob)
    (hv : ∀ φ' : Fm, D ∉ φ' → Kp φi φ' Hi Hi → Rel g φ' Hi u (.ref D)) (ev : (match cell with | true => alloc ob | false => pure u : M Val) sti = .ok v st') (k : Kont g φ H v st' Q) : Q (.ref D) Hi := by
  have mem : D ∈ φi.hid := by rw [s.hid]; exact List.mem_cons_self ..
  have hd := st.dis D mem
  have e : φi = Fm.hide ⟨φi.cells, φ.hid⟩ D := by
    cases φi with
    | mk cs hd' => have := s.hid; simp only at this; subst this; rfl
  have hst : RelSt g ⟨φi.cells, φ.hid⟩ sti Hi := by
    have := st
    rw [e] at this
    exact this.show
  have hk : Kp φi ⟨φi.cells, φ.hid⟩ Hi Hi := by
    have : Kp (Fm.hide ⟨φi.cells, φ.hid⟩ D) ⟨φi.cells, φ.hid⟩ Hi Hi := Kp.show
    rw [← e] at this
    exact this
  have nh : D ∉ φ.hid := (Fm.not_mem (hs0.not_mem s.none)).2
  cases cell with
  | false =>
    obtain ⟨rfl, rfl⟩ := pure_ok ev
    exact k _ _ _ s.fin hst (hv _ (Fm.not_mem' hd nh) hk)
  | true =>
    have ev : Res.ok (Val.ref sti.length) (sti ++ [ob]) = .ok v st' := ev
    cases ev
    have hk3 : Kp φi (Fm.push ⟨φi.cells, φ.hid⟩ D) Hi Hi := by
      refine ⟨List.prefix_append _ _, fun _ _ h _ => h, fun b o h n => ?_⟩
      have n1 := Fm.not_mem n
      rw [s.hid] at n1
      refine Fm.not_mem' (fun m => ?_) fun m => n1.2 (List.mem_cons_of_mem _ m)
      rcases List.mem_append.mp m with m | m
      · exact n1.1 m
      · exact n1.2 (by rw [List.mem_singleton.mp m]; exact List.mem_cons_self ..)
    refine k (Fm.push ⟨φi.cells, φ.hid⟩ D) _ _ ⟨s.pre.trans (List.prefix_append _ _), rfl, fun a m n => ?_, fun b o h n => s.keep b o h n⟩ ⟨?_, ?_, fun i a q e1 e2 => ?_, fun a m => ?_, hst.hs⟩ ?_
    · rcases List.mem_append.mp m with m | m
      · exact s.new a m n
      · rw [List.mem_singleton.mp m]; exact s.none
    · show (φi.cells ++ [D]).length = _
      simp [hst.len]
    · show (φi.cells ++ [D]).Nodup
      rw [List.nodup_append]
      exact ⟨st.nd, by simp, fun a ha b hb => by rw [List.mem_singleton.mp hb]; exact fun e => hd (e ▸ ha)⟩
    · have e1 : (φi.cells ++ [D])[i]? = some a := e1
      have hl := st.len
      by_cases hi : i < φi.cells.length
      · rw [List.getElem?_append_left hi] at e1
        rw [List.getElem?_append_left (by omega)] at e2
        exact (st.at_ i a q e1 e2).mono hk3 fun u hu => hu
      · rw [List.getElem?_append_right (by omega)] at e1
        rw [List.getElem?_append_right (by omega)] at e2
        have e0 : i - φi.cells.length = 0 := by
          cases hz : i - φi.cells.length with
          | zero => rfl
          | succ n => rw [hz] at e1; simp at e1
        have e0' : i - sti.length = 0 := by omega
        rw [e0] at e1; rw [e0'] at e2
        simp at e1 e2
        subst e1 e2
        exact hob.mono hk3 fun u hu => hu
    · show a ∉ φi.cells ++ [D]
      intro m'
      rcases List.mem_append.mp m' with m' | m'
      · exact st.dis a (by rw [s.hid]; exact List.mem_cons_of_mem _ m) m'
      · rw [List.mem_singleton.mp m'] at m; exact nh m
    · simp only [Rel]
      exact ⟨D, rfl, by rw [← st.len]; show (φi.cells ++ [D])[_]? = _; simp⟩
theorem Acc.fin {D : Addr} {φ φi : Fm} {H Hi : Hp} {sti st' : Store} {accV : List Val} {v : Val} {cell : Bool} {Q : VK} (A : Acc g D φ H φi sti Hi accV) (hs0 : RelSt g φ st0 H) (ev : mkLst cell accV sti = .ok v st') (k : Kont g φ H v st' Q) : Q (.ref D) Hi := by
  obtain ⟨acc, h1, h2⟩ := A.at_
  refine A.s.done (ob := .lst accV) (u := .lst accV) A.st hs0 ⟨acc, h1, h2⟩ (fun φ' hd hk => by simp only [Rel]; exact ⟨D, acc, rfl, hd, h1, RelL.monoK hk _ _ h2⟩) (cell := cell) ?_ k
  cases cell <;> exact ev
/-! ### one walk -/
theorem still_ok {w : Walked} {u : Unit} {st st' : Store} (h : stillM w st = .ok u st') : w.still st = true ∧ st = st' := by
  unfold stillM at h
  cases e : w.still st with
  | true => rw [e] at h; cases h; exact ⟨rfl, rfl⟩
  | false => rw [e] at h; cases h
theorem lc_run (C : CtxOk g X c bl fl) {cell : Bool} {elt : Ex} {t : Tg} {it : It} {ifs : List Ex} {φ : Fm} {ρ : Env} {σ : L2.St} {H : Hp} {st st' : Store} {v : Val} {Q : VK}
    (he : RelEnv g φ H ρ σ) (hs : RelSt g φ st H) (ev : evalE c (.comp cell elt t it ifs) ρ st = .ok v st') (k : Kont g φ H v st' Q) :
    tLc (RdI g c it) (RdG g t) (RdTs g c ifs) (RdE g c elt) (tgSlots t) σ H Q := by
  have ev : (do
    let w ← evalI c it ρ
    let ys ← compLoop w t (wipeE ρ (tgSlots t)) (evalT c ifs) (fun ρ' => do let y ← evalE c elt ρ'; pure [y]) w.items
    lenOk ys.length
    mkLst cell ys : M Val) st = .ok v st' := ev
  obtain ⟨w, st1, e1, ev⟩ := bind_ok ev
  obtain ⟨ys, st2, e2, ev⟩ := bind_ok ev
  obtain ⟨_, st3, e3, ev3⟩ := bind_ok ev
  obtain ⟨hl, rfl⟩ := lenOk_ok e3
  refine ⟨φ, ρ, st, w, st1, he, hs, e1, fun φ1 H1 J s1 hs1 hJ D hD => ?_⟩
  have k1 := Kont.after k s1
  have he1 := (he.mono s1).wipe (tgSlots t)
  let P : Nat → Hp → Prop := fun i Hi => ∃ φi sti accV rest, Acc g D φ1 H1 φi sti Hi accV ∧ compLoop w t (wipeE ρ (tgSlots t)) (evalT c ifs) (fun ρ' => do let y ← evalE c elt ρ'; pure [y]) (w.items.drop i) sti = .ok rest st2 ∧ accV ++ rest = ys
  refine ⟨fun i m Hi => m = w.items.length - i ∧ i ≤ w.items.length ∧ P i Hi, ⟨w.items.length, by simp, Nat.zero_le _, φ1.hide D, st1, [], ys, Acc.start hs1 hD, e2, rfl⟩, ?_⟩
  rintro i m Hi ⟨rfl, hi, φi, sti, accV, rest, A, e4, e5⟩
  by_cases hlt : i < w.items.length
  · have hd : w.items.drop i = w.items[i] :: w.items.drop (i + 1) := List.drop_eq_getElem_cons hlt
    rw [hd] at e4
    have e4 : (do
      stillM w
      let ρ' ← lift (bindTg t w.items[i] (wipeE ρ (tgSlots t)))
      let b ← evalT c ifs ρ'
      (match b with
      | true => do
        let ys ← (do let y ← evalE c elt ρ'; pure [y] : M (List Val))
        let zs ← compLoop w t (wipeE ρ (tgSlots t)) (evalT c ifs) (fun ρ' => do let y ← evalE c elt ρ'; pure [y]) (w.items.drop (i + 1))
        pure (ys ++ zs)
      | false => compLoop w t (wipeE ρ (tgSlots t)) (evalT c ifs) (fun ρ' => do let y ← evalE c elt ρ'; pure [y]) (w.items.drop (i + 1))) : M (List Val)) sti = .ok rest st2 := e4
    obtain ⟨_, sti', f1, e4⟩ := bind_ok e4
    obtain ⟨q1, rfl⟩ := still_ok f1
    obtain ⟨ρ', sti', f2, e4⟩ := bind_ok e4
    obtain ⟨q2, rfl⟩ := lift_ok f2
    obtain ⟨b, sti', f3, e6⟩ := bind_ok e4
    obtain ⟨_, hyld⟩ := hJ φi Hi sti A.s.kp A.st q1
    obtain ⟨hgo, hy⟩ := hyld i w.items[i] (by simp [hlt])
    refine .inr ⟨hgo, P (i + 1), fun H' hP => ⟨w.items.length - (i + 1), by omega, rfl, hlt, hP⟩, fun x H' hx => ?_⟩
    obtain ⟨rfl, rx⟩ := hy x H' hx
    have hei : RelEnv g φi H' (wipeE ρ (tgSlots t)) (L2.wipe σ (tgSlots t)) := RelEnv.monoK A.s.kp he1
    refine ⟨φi, _, _, ρ', hei, rx, q2, fun σ2 he2 hw => ⟨(hw _ fun _ h => h).trans wipe_wipe, φi, ρ', sti, b, sti', he2, A.st, f3, fun φ3 H3 b' s3 hs3 eb => ?_⟩⟩
    have eb : b' = b := eb
    subst eb
    cases b' with
    | false =>
      show P (i + 1) H3
      exact ⟨φ3, sti', accV, rest, A.step s3 hs3, e6, e5⟩
    | true =>
      show RdE g c elt σ2 H3 fun y H4 => ∃ acc, H4 D = some (HO.lst acc) ∧ acc.length < sizeLine ∧ P (i + 1) (upd H4 D (HO.lst (acc ++ [y])))
      obtain ⟨zs, sti2, f4, e7⟩ := bind_ok e6
      obtain ⟨y, sti3, f5, f6⟩ := bind_ok f4
      obtain ⟨rfl, rfl⟩ := pure_ok f6
      obtain ⟨zs, sti4, f7, e8⟩ := bind_ok e7
      obtain ⟨rfl, rfl⟩ := pure_ok e8
      refine seq1 (he2.mono s3) hs3 f5 fun φ4 H4 y' s4 hs4 he4 r4 => ?_
      have A4 := (A.step s3 hs3).step s4 hs4
      obtain ⟨acc, h1, h2, A5⟩ := A4.put r4
      refine ⟨acc, h1, ?_, φ4, sti3, accV ++ [y], zs, A5, f7, by rw [← e5]; simp⟩
      have : ys.length = accV.length + (1 + zs.length) := by rw [← e5]; simp; omega
      omega
  · have e : i = w.items.length := by omega
    subst e
    rw [List.drop_length] at e4
    have e4 : (do stillM w; pure [] : M (List Val)) sti = .ok rest st2 := e4
    obtain ⟨_, sti', f1, e4⟩ := bind_ok e4
    obtain ⟨q1, rfl⟩ := still_ok f1
    obtain ⟨rfl, rfl⟩ := pure_ok e4
    rw [List.append_nil] at e5
    subst e5
    exact .inl ⟨(hJ φi Hi sti A.s.kp A.st q1).1, A.fin hs1 ev3 k1⟩
/-- a comprehension's name, place in a block -/
def relS (scope sc : Scope) : Scope := { scope with names := scope.names.map fun (n, k) => if (k == .free && sc.kind == .function && sc.names.lookup n == some .cell) then (n, .cell) else (n, k) }
theorem scope_blk (scope : Scope) (cl : List (Str × Addr)) (C : Addr) (env : PySem.Env) : (compEnvC scope cl C env).scope = relS scope env.scope := rfl
theorem lc2_run (C : CtxOk g X c bl fl) {cell : Bool} {elt : Ex} {t t1 : Tg} {it it1 : It} {ifs ifs1 : List Ex} {φ : Fm} {ρ : Env} {σ : L2.St} {H : Hp} {st st' : Store} {v : Val} {Q : VK}
    (he : RelEnv g φ H ρ σ) (hs : RelSt g φ st H) (ev : evalE c (.comp2 cell elt t it ifs t1 it1 ifs1) ρ st = .ok v st') (k : Kont g φ H v st' Q) :
    tLc2 (RdI g c it) (RdG g t) (RdTs g c ifs) (RdI g c it1) (RdG g t1) (RdTs g c ifs1) (RdE g c elt) (tgSlots t ++ tgSlots t1) (tgSlots t1) σ H Q := by
  let body1 : Env → M (List Val) := fun ρ'' => do let y ← evalE c elt ρ''; pure [y]
  let body2 : Env → M (List Val) := fun ρ' => do
      let w1 ← evalI c it1 ρ'
      compLoop w1 t1 (wipeE ρ' (tgSlots t1)) (evalT c ifs1) body1 w1.items
  have ev : (do
    let w ← evalI c it ρ
    let ys ← compLoop w t (wipeE ρ (tgSlots t ++ tgSlots t1)) (evalT c ifs) body2 w.items
    lenOk ys.length
    mkLst cell ys : M Val) st = .ok v st' := ev
  obtain ⟨w, st1, e1, ev⟩ := bind_ok ev
  obtain ⟨ys, st2, e2, ev⟩ := bind_ok ev
  obtain ⟨_, st3, e3, ev3⟩ := bind_ok ev
  obtain ⟨hl, rfl⟩ := lenOk_ok e3
  refine ⟨φ, ρ, st, w, st1, he, hs, e1, fun φ1 H1 J s1 hs1 hJ D hD => ?_⟩
  have k1 := Kont.after k s1
  have he1 := (he.mono s1).wipe (tgSlots t ++ tgSlots t1)
  let P : Nat → Hp → Prop := fun i Hi => ∃ φi sti accV rest, Acc g D φ1 H1 φi sti Hi accV ∧ compLoop w t (wipeE ρ (tgSlots t ++ tgSlots t1)) (evalT c ifs) body2 (w.items.drop i) sti = .ok rest st2 ∧ accV ++ rest = ys
  refine ⟨fun i m Hi => m = w.items.length - i ∧ i ≤ w.items.length ∧ P i Hi, ⟨w.items.length, by simp, Nat.zero_le _, φ1.hide D, st1, [], ys, Acc.start hs1 hD, e2, rfl⟩, ?_⟩
  rintro i m Hi ⟨rfl, hi, φi, sti, accV, rest, A, e4, e5⟩
  by_cases hlt : i < w.items.length
  · have hd : w.items.drop i = w.items[i] :: w.items.drop (i + 1) := List.drop_eq_getElem_cons hlt
    rw [hd] at e4
    have e4 : (do
      stillM w
      let ρ' ← lift (bindTg t w.items[i] (wipeE ρ (tgSlots t ++ tgSlots t1)))
      let b ← evalT c ifs ρ'
      (match b with
      | true => do
        let ys ← body2 ρ'
        let zs ← compLoop w t (wipeE ρ (tgSlots t ++ tgSlots t1)) (evalT c ifs) body2 (w.items.drop (i + 1))
        pure (ys ++ zs)
      | false => compLoop w t (wipeE ρ (tgSlots t ++ tgSlots t1)) (evalT c ifs) body2 (w.items.drop (i + 1))) : M (List Val)) sti = .ok rest st2 := e4
    obtain ⟨_, sti', f1, e4⟩ := bind_ok e4
    obtain ⟨q1, rfl⟩ := still_ok f1
    obtain ⟨ρ', sti', f2, e4⟩ := bind_ok e4
    obtain ⟨q2, rfl⟩ := lift_ok f2
    obtain ⟨b, sti', f3, e6⟩ := bind_ok e4
    obtain ⟨_, hyld⟩ := hJ φi Hi sti A.s.kp A.st q1
    obtain ⟨hgo, hy⟩ := hyld i w.items[i] (by simp [hlt])
    refine .inr ⟨hgo, P (i + 1), fun H' hP => ⟨w.items.length - (i + 1), by omega, rfl, hlt, hP⟩, fun x H' hx => ?_⟩
    obtain ⟨rfl, rx⟩ := hy x H' hx
    have hei : RelEnv g φi H' (wipeE ρ (tgSlots t ++ tgSlots t1)) (L2.wipe σ (tgSlots t ++ tgSlots t1)) := RelEnv.monoK A.s.kp he1
    refine ⟨φi, _, _, ρ', hei, rx, q2, fun σ2 he2 hw => ⟨(hw _ fun _ h => List.mem_append_left _ h).trans wipe_wipe, φi, ρ', sti, b, sti', he2, A.st, f3, fun φ3 H3 b' s3 hs3 eb => ?_⟩⟩
    have eb : b' = b := eb
    subst eb
    cases b' with
    | false =>
      show P (i + 1) H3
      exact ⟨φ3, sti', accV, rest, A.step s3 hs3, e6, e5⟩
    | true =>
      obtain ⟨zs, sti2, f4, e7⟩ := bind_ok e6
      obtain ⟨us, sti4, f7, e8⟩ := bind_ok e7
      obtain ⟨rfl, rfl⟩ := pure_ok e8
      obtain ⟨w1, sti3, f5, f6⟩ := bind_ok f4
      have A3 := A.step s3 hs3
      have he3 := he2.mono s3
      refine ⟨φ3, ρ', sti', w1, sti3, he3, hs3, f5, fun φ4 H4 J1 s4 hs4 hJ1 => ?_⟩
      have A4 := A3.step s4 hs4
      have he4 := (he3.mono s4).wipe (tgSlots t1)
      let P1 : Nat → Hp → Prop := fun j Hj => ∃ φj stj accW rest, Acc g D φ1 H1 φj stj Hj (accV ++ accW) ∧ Kp φ4 φj H4 Hj ∧ compLoop w1 t1 (wipeE ρ' (tgSlots t1)) (evalT c ifs1) body1 (w1.items.drop j) stj = .ok rest sti2 ∧ accW ++ rest = zs
      refine ⟨fun j m Hj => m = w1.items.length - j ∧ j ≤ w1.items.length ∧ P1 j Hj, ⟨w1.items.length, by simp, Nat.zero_le _, φ4, sti3, [], zs, by rw [List.append_nil]; exact A4, (Step.refl φ4 H4).kp, f6, rfl⟩, ?_⟩
      rintro j m Hj ⟨rfl, hj, φj, stj, accW, rest, Aj, kj, h4, h5⟩
      by_cases hlt1 : j < w1.items.length
      · have hd1 : w1.items.drop j = w1.items[j] :: w1.items.drop (j + 1) := List.drop_eq_getElem_cons hlt1
        rw [hd1] at h4
        have h4 : (do
          stillM w1
          let ρ'' ← lift (bindTg t1 w1.items[j] (wipeE ρ' (tgSlots t1)))
          let b ← evalT c ifs1 ρ''
          (match b with
          | true => do
            let ys ← body1 ρ''
            let zs ← compLoop w1 t1 (wipeE ρ' (tgSlots t1)) (evalT c ifs1) body1 (w1.items.drop (j + 1))
            pure (ys ++ zs)
          | false => compLoop w1 t1 (wipeE ρ' (tgSlots t1)) (evalT c ifs1) body1 (w1.items.drop (j + 1))) : M (List Val)) stj = .ok rest sti2 := h4
        obtain ⟨_, stj', g1, h4⟩ := bind_ok h4
        obtain ⟨p1, rfl⟩ := still_ok g1
        obtain ⟨ρ'', stj', g2, h4⟩ := bind_ok h4
        obtain ⟨p2, rfl⟩ := lift_ok g2
        obtain ⟨b1, stj', g3, h6⟩ := bind_ok h4
        obtain ⟨_, hyld1⟩ := hJ1 φj Hj stj kj Aj.st p1
        obtain ⟨hgo1, hy1⟩ := hyld1 j w1.items[j] (by simp [hlt1])
        refine .inr ⟨hgo1, P1 (j + 1), fun H' hP => ⟨w1.items.length - (j + 1), by omega, rfl, hlt1, hP⟩, fun x H' hx => ?_⟩
        obtain ⟨rfl, rx⟩ := hy1 x H' hx
        have hej : RelEnv g φj H' (wipeE ρ' (tgSlots t1)) (L2.wipe σ2 (tgSlots t1)) := RelEnv.monoK kj he4
        refine ⟨φj, _, _, ρ'', hej, rx, p2, fun σ3 he5 hw1 => ⟨(hw1 _ fun _ h => h).trans wipe_wipe, φj, ρ'', stj, b1, stj', he5, Aj.st, g3, fun φ5 H5 b1' s5 hs5 eb => ?_⟩⟩
        have eb : b1' = b1 := eb
        subst eb
        cases b1' with
        | false =>
          show P1 (j + 1) H5
          exact ⟨φ5, stj', accW, rest, Aj.step s5 hs5, kj.trans s5.kp, h6, h5⟩
        | true =>
          show RdE g c elt σ3 H5 fun y H7 => ∃ acc, H7 D = some (HO.lst acc) ∧ acc.length < sizeLine ∧ P1 (j + 1) (upd H7 D (HO.lst (acc ++ [y])))
          obtain ⟨zs1, stj2, g4, h7⟩ := bind_ok h6
          obtain ⟨us1, stj4, g7, h8⟩ := bind_ok h7
          obtain ⟨rfl, rfl⟩ := pure_ok h8
          obtain ⟨y, stj3, g5, g6⟩ := bind_ok g4
          obtain ⟨rfl, rfl⟩ := pure_ok g6
          refine seq1 (he5.mono s5) hs5 g5 fun φ6 H6 y' s6 hs6 he6 r6 => ?_
          have A6 := (Aj.step s5 hs5).step s6 hs6
          obtain ⟨acc, m1, m2, A7⟩ := A6.put r6
          refine ⟨acc, m1, ?_, φ6, stj3, accW ++ [y], us1, by rw [← List.append_assoc]; exact A7, ((kj.trans s5.kp).trans s6.kp).trans (Kp.put A6.mem), g7, by rw [← h5]; simp⟩
          have : ys.length = accV.length + (accW.length + (1 + us1.length)) + us.length := by rw [← e5, ← h5]; simp; omega
          rw [← m2]
          simp only [List.length_append]
          omega
      · have e : j = w1.items.length := by omega
        subst e
        rw [List.drop_length] at h4
        have h4 : (do stillM w1; pure [] : M (List Val)) stj = .ok rest sti2 := h4
        obtain ⟨_, stj', g1, h4⟩ := bind_ok h4
        obtain ⟨p1, rfl⟩ := still_ok g1
        obtain ⟨rfl, rfl⟩ := pure_ok h4
        rw [List.append_nil] at h5
        subst h5
        exact .inl ⟨(hJ1 φj Hj stj kj Aj.st p1).1, φj, stj, accV ++ accW, us, Aj, f7, by rw [← e5, List.append_assoc]⟩
  · have e : i = w.items.length := by omega
    subst e
    rw [List.drop_length] at e4
    have e4 : (do stillM w; pure [] : M (List Val)) sti = .ok rest st2 := e4
    obtain ⟨_, sti', f1, e4⟩ := bind_ok e4
    obtain ⟨q1, rfl⟩ := still_ok f1
    obtain ⟨rfl, rfl⟩ := pure_ok e4
    rw [List.append_nil] at e5
    subst e5
    exact .inl ⟨(hJ φi Hi sti A.s.kp A.st q1).1, A.fin hs1 ev3 k1⟩
/-- the block's names -/
def ownOf (N : List Str) (is : List Nat) : List (Str × Nat) := is.map fun i => (N.getD i "", i)
theorem ownOf_2 {N : List Str} {is : List Nat} : (ownOf N is).map (·.2) = is := by
  unfold ownOf
  rw [List.map_map]
  exact List.map_id _
abbrev Blk (X : Cx) (scope : Scope) (p : Cx → Prop) : Prop := ∀ (s : Shared) (H : Hp) (C : Addr) (cl : List (Str × Addr)) (fp : List Addr), p (X.blk s H scope (compEnvC scope cl C X.env) fp)
def notSet : Expr → Bool
  | .Set _ _ _ => false
  | _ => true
theorem folded {e : Expr} (h : notSet e = true) (env : PySem.Env) (x : Value) : foldedSetIterable e env x = pure x := by
  cases e <;> first | rfl | cases h
theorem rd_comp (C : CtxOk g X c bl fl) {cell : Bool} {elt tg iter : Expr} {ifs : List Expr} {scope : Scope} {pos : Pos} {m : Ex} {t : Tg} {it : It} {ms : List Ex} (hi : PI X tg iter (RdI g c it)) (hk : blkC X.N X.env.scope scope (ownOf X.N (tgSlots t)) = true) (hn : notSet iter = true)
    (hg : Blk X scope fun Y => PG Y tg (RdG g t)) (ht : Blk X scope fun Y => PTs Y ifs (RdTs g c ms)) (he : Blk X scope fun Y => PE Y elt (RdE g c m)) : PE X (.ListComp elt [⟨tg, iter, ifs, 0⟩] scope pos) (RdE g c (.comp cell m t it ms)) :=
  PE.of fun σ H Q ⟨φ, ρ, st, v, st', hre, hs, ev, k⟩ =>
    ⟨_, pe_lc C.calm C.nd hi (blkOk_by hk) hg ht he (folded hn X.env), by rw [ownOf_2]; exact lc_run C hre hs ev k⟩
theorem rd_comp2 (C : CtxOk g X c bl fl) {cell : Bool} {elt tg iter tg1 iter1 : Expr} {ifs ifs1 : List Expr} {scope : Scope} {pos : Pos} {m : Ex} {t t1 : Tg} {it it1 : It} {ms ms1 : List Ex} (hi : PI X tg iter (RdI g c it)) (hk : blkC X.N X.env.scope scope (ownOf X.N (tgSlots t ++ tgSlots t1)) = true) (hn : notSet iter = true) (hn1 : notSet iter1 = true)
    (hg : Blk X scope fun Y => PG Y tg (RdG g t)) (ht : Blk X scope fun Y => PTs Y ifs (RdTs g c ms)) (hi1 : Blk X scope fun Y => PI Y tg1 iter1 (RdI g c it1)) (hg1 : Blk X scope fun Y => PG Y tg1 (RdG g t1)) (ht1 : Blk X scope fun Y => PTs Y ifs1 (RdTs g c ms1)) (he : Blk X scope fun Y => PE Y elt (RdE g c m)) :
    PE X (.ListComp elt [⟨tg, iter, ifs, 0⟩, ⟨tg1, iter1, ifs1, 0⟩] scope pos) (RdE g c (.comp2 cell m t it ms t1 it1 ms1)) :=
  PE.of fun σ H Q ⟨φ, ρ, st, v, st', hre, hs, ev, k⟩ =>
    ⟨_, pe_lc2 (vs1 := tgSlots t1) C.calm C.nd hi (blkOk_by hk) (fun i h => by rw [ownOf_2]; exact List.mem_append_right _ h) hg ht hi1 hg1 ht1 he (folded hn X.env) (folded hn1), by rw [ownOf_2]; exact lc2_run C hre hs ev k⟩
end
end Mn

end

section
set_option maxHeartbeats 1000000
/-! Mn: methods of lists and dicts, dict displays, list(range(..)), isinstance. -/
namespace Mn
open PySem PySem.Spec PyProof.Rows L2

section
variable {g : Gm} {c : Cf} {X : Cx} {bl fl : List Str}
/-! ### list(range(..)) -/
theorem rgV_rel {φ : Fm} {H : Hp} {a : Int} {n : Nat} : RelL g φ H (rngVals a n) ((List.range n).map fun i => V.int (a + (i : Nat))) := by
  have : ∀ l : List Nat, RelL g φ H (l.map fun i => Val.int (a + (i : Nat))) (l.map fun i => V.int (a + (i : Nat))) := by
    intro l
    induction l with
    | nil => simp [RelL]
    | cons x r ih => simp only [List.map_cons, RelL]; exact ⟨_, _, rfl, by simp [Rel], ih⟩
  exact this _
theorem rngOf1 {v : Val} {r : Int × Nat} (h : rngOf [v] = some r) : ∃ j, v = .int j ∧ RgOk 0 j ∧ r = (0, (j - 0).toNat) := by
  cases v <;> simp only [rngOf] at h <;> first | (cases h; done) | skip
  split at h
  · rename_i j hj
    cases h
    simp only [Bool.and_eq_true, decide_eq_true_eq] at hj
    have := sizeLine_eq
    exact ⟨j, rfl, ⟨by omega, by omega, hj.1, hj.2.1, by omega⟩, by simp⟩
  · cases h
theorem rngOf2 {v u : Val} {r : Int × Nat} (h : rngOf [v, u] = some r) : ∃ i j, v = .int i ∧ u = .int j ∧ RgOk i j ∧ r = (i, (j - i).toNat) := by
  cases v <;> cases u <;> simp only [rngOf] at h <;> first | (cases h; done) | skip
  split at h
  · rename_i i j hj
    cases h
    simp only [Bool.and_eq_true, decide_eq_true_eq] at hj
    have := sizeLine_eq
    exact ⟨i, j, rfl, rfl, ⟨hj.1, hj.2.1, hj.2.2.1, hj.2.2.2.1, by omega⟩, rfl⟩
  · cases h
theorem evalL1 {m : Ex} {ρ : Env} {st st' : Store} {xs : List Val} (e : evalL c [m] ρ st = .ok xs st') : ∃ u, xs = [u] ∧ evalE c m ρ st = .ok u st' := by
  have e : (do let v ← evalE c m ρ; let vs ← evalL c [] ρ; pure (v :: vs) : M (List Val)) st = .ok xs st' := e
  obtain ⟨u, st2, e3, e⟩ := bind_ok e
  obtain ⟨us, st3, e4, e⟩ := bind_ok e
  obtain ⟨rfl, rfl⟩ := pure_ok e4
  obtain ⟨rfl, rfl⟩ := pure_ok e
  exact ⟨_, rfl, e3⟩
theorem evalL2' {m n : Ex} {ρ : Env} {st st' : Store} {xs : List Val} (e : evalL c [m, n] ρ st = .ok xs st') : ∃ u v st1, xs = [u, v] ∧ evalE c m ρ st = .ok u st1 ∧ evalE c n ρ st1 = .ok v st' := by
  have e : (do let v ← evalE c m ρ; let vs ← evalL c [n] ρ; pure (v :: vs) : M (List Val)) st = .ok xs st' := e
  obtain ⟨u, st2, e3, e⟩ := bind_ok e
  obtain ⟨us, st3, e4, e⟩ := bind_ok e
  obtain ⟨rfl, rfl⟩ := pure_ok e
  obtain ⟨v, rfl, e5⟩ := evalL1 e4
  exact ⟨_, _, _, rfl, e3, e5⟩
theorem rd_lrng1 (C : CtxOk g X c bl fl) {cell : Bool} {a : Expr} {m : Ex} {p1 p2 q1 q2 : Pos} (hl : glB X.env.scope "list" = true) (hlb : bl.contains "list" = true) (hg : glB X.env.scope "range" = true) (hb : bl.contains "range" = true) (ha : PE X a (RdE g c m)) (hn : notStar a = true) :
    PE X (.Call (.Name "list" p1) [.Call (.Name "range" q1) [a] [] q2] [] p2) (RdE g c (.lrng cell [m])) :=
  PE.of fun σ H Q ⟨φ, ρ, st, v, st', he, hs, ev, k⟩ => by
    have ev : (do let vs ← evalL c [m] ρ; let r ← lift (rngOf vs); mkLst cell (rngVals r.1 r.2) : M Val) st = .ok v st' := ev
    obtain ⟨xs, st1, e1, ev⟩ := bind_ok ev
    obtain ⟨r, st2, e2, ev2⟩ := bind_ok ev
    obtain ⟨q2', rfl⟩ := lift_ok e2
    obtain ⟨u, rfl, e3⟩ := evalL1 e1
    obtain ⟨j, rfl, ok, rfl⟩ := rngOf1 q2'
    refine ⟨_, pe_listRg C.calm (glB_ok hl) (C.blt _ (List.contains_iff_mem.mp hlb)) (prg_1 (glB_ok hg) (C.blt _ (List.contains_iff_mem.mp hb)) ha (star_cons hn)) rfl, seq1 he hs e3 fun φ1 H1 x' s1 hs1 he1 r1 => ?_⟩
    simp only [Rel] at r1
    exact ⟨j, r1, ok, fun q hq => (Kont.after k s1).lst ev2 hs1 rgV_rel hq⟩
theorem rd_lrng2 (C : CtxOk g X c bl fl) {cell : Bool} {a b : Expr} {m n : Ex} {p1 p2 q1 q2 : Pos} (hl : glB X.env.scope "list" = true) (hlb : bl.contains "list" = true) (hg : glB X.env.scope "range" = true) (hb : bl.contains "range" = true) (ha : PE X a (RdE g c m)) (hbb : PE X b (RdE g c n)) (hn : notStar a = true) (hn2 : notStar b = true) :
    PE X (.Call (.Name "list" p1) [.Call (.Name "range" q1) [a, b] [] q2] [] p2) (RdE g c (.lrng cell [m, n])) :=
  PE.of fun σ H Q ⟨φ, ρ, st, v, st', he, hs, ev, k⟩ => by
    have ev : (do let vs ← evalL c [m, n] ρ; let r ← lift (rngOf vs); mkLst cell (rngVals r.1 r.2) : M Val) st = .ok v st' := ev
    obtain ⟨xs, st1, e1, ev⟩ := bind_ok ev
    obtain ⟨r, st2, e2, ev2⟩ := bind_ok ev
    obtain ⟨q2', rfl⟩ := lift_ok e2
    obtain ⟨u, w, stm, rfl, e3, e4⟩ := evalL2' e1
    obtain ⟨i, j, rfl, rfl, ok, rfl⟩ := rngOf2 q2'
    refine ⟨_, pe_listRg C.calm (glB_ok hl) (C.blt _ (List.contains_iff_mem.mp hlb)) (prg_2 (glB_ok hg) (C.blt _ (List.contains_iff_mem.mp hb)) ha hbb (star_cons hn) (star_cons hn2) (plain_args (by rw [List.all_cons, hn2]; rfl))) rfl, seq2 he hs e3 e4 fun φ1 H1 x' y' s1 hs1 he1 r1 r2 => ?_⟩
    simp only [Rel] at r1 r2
    exact ⟨i, j, r1, r2, ok, fun q hq => (Kont.after k s1).lst ev2 hs1 rgV_rel hq⟩

/-! ### methods of lists -/
theorem ref_lst {φ : Fm} {H : Hp} {i : Nat} {x : V} {xs : List Val} {st : Store} (hs : RelSt g φ st H) (e : st[i]? = some (.lst xs)) (r : Rel g φ H (.ref i) x) : ∃ a vs, x = .ref a ∧ φ.cells[i]? = some a ∧ H a = some (.lst vs) ∧ RelL g φ H xs vs := by
  simp only [Rel] at r
  obtain ⟨a, rfl, ha⟩ := r
  obtain ⟨vs, h1, h2⟩ := hs.at_ i a _ ha e
  exact ⟨a, vs, rfl, ha, h1, h2⟩
/-- a list's cell is written -/
theorem Kont.wr {φ : Fm} {H : Hp} {i : Nat} {a : Addr} {v : Val} {x : V} {xs : List Val} {vs : List V} {st : Store} {Q : VK} (k : Kont g φ H v (st.set i (.lst xs)) Q) (hs : RelSt g φ st H) (ha : φ.cells[i]? = some a) (r : RelL g φ H xs vs) (rv : Rel g φ H v x) : Q x (upd H a (.lst vs)) := by
  have s : Step φ φ H (upd H a (.lst vs)) := Step.put (List.mem_of_getElem? ha)
  exact k φ _ x s (hs.put ha ⟨vs, upd_same, RelL.mono s _ _ r⟩) (Rel.mono s _ _ rv)
def bmN : Bm → Str
  | .append => "append" | .pop => "pop" | .popAt => "pop" | .extend => "extend" | .index => "index" | .get1 => "get" | .get2 => "get" | .clear => "clear"
def bmId : Bm → String
  | .append => "list.append" | .pop => "list.pop" | .popAt => "list.pop" | .extend => "list.extend" | .clear => "list.clear" | _ => ""
def bmL : Bm → Bool
  | .append => true | .pop => true | .popAt => true | .extend => true | .clear => true | _ => false
theorem bm_rule (C : CtxOk g X c bl fl) {m : Bm} {o v : Val} {vs : List Val} {st st' : Store} (hm : bmL m = true) (h : bmVal m o vs st = .ok v st') :
    ∃ r, MtR X (bmId m) r ∧ ∀ (φ : Fm) (H : Hp) (x : V) (xs : List V) (Q : VK), RelSt g φ st H → Rel g φ H o x → RelL g φ H vs xs → Kont g φ H v st' Q → r x xs H Q := by
  have lk : ∀ {i : Nat} {xs : List Val} {st1 st2 : Store}, look (fun st => match st[i]? with | some (.lst xs) => some xs | _ => none) st1 = .ok xs st2 → st1[i]? = some (.lst xs) ∧ st1 = st2 := by
    intro i xs st1 st2 e
    obtain ⟨e', rfl⟩ := look_ok e
    split at e'
    · rename_i ys q
      cases e'
      exact ⟨q, rfl⟩
    · cases e'
  have wr : ∀ {i : Nat} {ob : Obj} {st1 st2 : Store} {u : Unit}, write i ob st1 = .ok u st2 → st2 = st1.set i ob := by
    intro i ob st1 st2 u e
    have e : Res.ok () (st1.set i ob) = .ok u st2 := e
    cases e; rfl
  unfold bmVal at h
  split at h
  case h_1 =>
    rename_i y
    cases o <;> first | exact (bad_ok h).elim | skip
    rename_i i
    obtain ⟨xs, st1, e1, h⟩ := bind_ok h
    obtain ⟨_, st2, e2, h⟩ := bind_ok h
    obtain ⟨rfl, rfl⟩ := pure_ok h
    have := wr e2
    subst this
    obtain ⟨e1', rfl⟩ := look_ok e1
    refine ⟨_, mt_append, fun φ H x ys Q hs rx ry k => ?_⟩
    split at e1'
    · rename_i zs q
      split at e1'
      · rename_i hlen
        cases e1'
        obtain ⟨z, rfl, rz⟩ := ry.one_of
        obtain ⟨a, us, rfl, ha, h1, h2⟩ := ref_lst hs q rx
        exact ⟨a, us, z, rfl, rfl, h1, by rw [← h2.length]; exact hlen, k.wr hs ha (h2.append (RelL.one rz)) (by simp [Rel])⟩
      · cases e1'
    · cases e1'
  case h_2 =>
    cases o <;> first | exact (bad_ok h).elim | skip
    rename_i i
    obtain ⟨xs, st1, e1, h⟩ := bind_ok h
    obtain ⟨y, st2, e2, h⟩ := bind_ok h
    obtain ⟨_, st3, e3, h⟩ := bind_ok h
    obtain ⟨rfl, rfl⟩ := pure_ok h
    have := wr e3
    subst this
    obtain ⟨q1, rfl⟩ := lk e1
    obtain ⟨q2, rfl⟩ := lift_ok e2
    refine ⟨_, mt_pop, fun φ H x ys Q hs rx ry k => ?_⟩
    simp only [RelL] at ry
    subst ry
    obtain ⟨a, us, rfl, ha, h1, h2⟩ := ref_lst hs q1 rx
    obtain ⟨z, hz, rz⟩ := h2.get q2
    exact ⟨a, us, z, rfl, rfl, h1, by rw [← h2.length]; exact hz, k.wr hs ha h2.dropLast rz⟩
  case h_3 =>
    rename_i kk
    cases o <;> first | exact (bad_ok h).elim | skip
    rename_i i
    obtain ⟨xs, st1, e1, h⟩ := bind_ok h
    obtain ⟨_, st2, e2, h⟩ := bind_ok h
    obtain ⟨j, st3, e3, h⟩ := bind_ok h
    obtain ⟨y, st4, e4, h⟩ := bind_ok h
    obtain ⟨_, st5, e5, h⟩ := bind_ok h
    obtain ⟨rfl, rfl⟩ := pure_ok h
    have := wr e5
    subst this
    obtain ⟨q1, rfl⟩ := lk e1
    obtain ⟨q2, rfl⟩ := guard_ok e2
    obtain ⟨q3, rfl⟩ := lift_ok e3
    obtain ⟨q4, rfl⟩ := lift_ok e4
    simp only [Bool.and_eq_true, decide_eq_true_eq] at q2
    refine ⟨_, mt_popAt, fun φ H x ys Q hs rx ry k => ?_⟩
    obtain ⟨z, rfl, rz⟩ := ry.one_of
    simp only [Rel] at rz
    subst rz
    obtain ⟨a, us, rfl, ha, h1, h2⟩ := ref_lst hs q1 rx
    obtain ⟨z, hz, rz⟩ := h2.get q4
    exact ⟨a, us, _, j, z, rfl, rfl, h1, q2.1, q2.2, by rw [← h2.length]; exact q3, hz, k.wr hs ha (h2.eraseIdx j) rz⟩
  case h_4 =>
    rename_i y
    cases o <;> first | exact (bad_ok h).elim | skip
    rename_i i
    obtain ⟨xs, st1, e1, h⟩ := bind_ok h
    obtain ⟨ys, st2, e2, h⟩ := bind_ok h
    obtain ⟨_, st3, e3, h⟩ := bind_ok h
    obtain ⟨_, st4, e4, h⟩ := bind_ok h
    obtain ⟨rfl, rfl⟩ := pure_ok h
    have := wr e4
    subst this
    obtain ⟨q1, rfl⟩ := lk e1
    obtain ⟨q2, rfl⟩ := look_ok e2
    obtain ⟨q3, rfl⟩ := lenOk_ok e3
    refine ⟨_, mt_extend, fun φ H x zs Q hs rx ry k => ?_⟩
    obtain ⟨z, rfl, rz⟩ := ry.one_of
    obtain ⟨a, us, rfl, ha, h1, h2⟩ := ref_lst hs q1 rx
    obtain ⟨b, ws, rfl, h3, h4⟩ := ownLst_rel hs q2 rz
    exact ⟨a, b, us, ws, rfl, rfl, h1, h3, by rw [← h2.length, ← h4.length]; exact q3, k.wr hs ha (h2.append h4) (by simp [Rel])⟩
  case h_5 =>
    cases o <;> first | exact (bad_ok h).elim | skip
    rename_i i
    obtain ⟨xs, st1, e1, h⟩ := bind_ok h
    obtain ⟨_, st2, e2, h⟩ := bind_ok h
    obtain ⟨rfl, rfl⟩ := pure_ok h
    have := wr e2
    subst this
    obtain ⟨q1, rfl⟩ := lk e1
    refine ⟨_, mt_clear, fun φ H x zs Q hs rx ry k => ?_⟩
    simp only [RelL] at ry
    subst ry
    obtain ⟨a, us, rfl, ha, h1, h2⟩ := ref_lst hs q1 rx
    exact ⟨a, us, rfl, rfl, h1, k.wr hs ha (by simp [RelL]) (by simp [Rel])⟩
  all_goals first
    | (simp only [bmL] at hm; exact absurd hm Bool.false_ne_true)
    | exact (bad_ok h).elim
theorem bm_slot {m : Bm} (hm : bmL m = true) : ∃ name : Str, bmN m = name ∧ Slot "list" name (bmId m) ∧ typeOf (.builtin (bmId m)) = pure (.type "method_descriptor") := by
  cases m <;> first | (simp only [bmL] at hm; exact absurd hm Bool.false_ne_true) | skip
  · exact ⟨_, rfl, F.slot_list_append, F.type_list_append⟩
  · exact ⟨_, rfl, F.slot_list_pop, F.type_list_pop⟩
  · exact ⟨_, rfl, F.slot_list_pop, F.type_list_pop⟩
  · exact ⟨_, rfl, F.slot_list_extend, F.type_list_extend⟩
  · exact ⟨_, rfl, F.slot_list_clear, F.type_list_clear⟩
theorem tyL_of (hK : X.K = g.K) {φ : Fm} {H : Hp} {v : Val} {x : V} {st : Store} (hs : RelSt g φ st H) (r : Rel g φ H v x) (h : (lstOf st v).isSome = true) : tyV X.K "list" x H := by
  obtain ⟨xs, e⟩ := Option.isSome_iff_exists.mp h
  obtain ⟨a, vs, rfl, h1, _⟩ := lstOf_rel hs e r
  rw [hK]
  exact .inl ⟨rfl, vs, h1⟩
theorem bmKind_L {m : Bm} (hm : bmL m = true) {v : Val} {st : Store} (h : bmKind m v st = true) : (lstOf st v).isSome = true := by
  cases m <;> first | (simp only [bmL] at hm; exact absurd hm Bool.false_ne_true) | exact h
theorem rd_bmL (C : CtxOk g X c bl fl) {m : Bm} {n : Str} {o e : Expr} {es : List Expr} {mo : Ex} {ms : List Ex} {apos pos : Pos} (hm : bmL m = true) (hn : n = bmN m) (ho : PE X o (RdE g c mo)) (h : PA X (e :: es) (RdL g c ms)) (hb : baseOk o = true) (hs : (e :: es).all notStar = true) (h30 : (e :: es).length < 30) (hl : (apos.endLine == pos.line) = true) :
    PE X (.Call (.Attribute o n apos) (e :: es) [] pos) (RdE g c (.bm m mo ms)) :=
  PE.of fun σ H Q ⟨φ, ρ, st, v, st', he, hst, ev, k⟩ => by
    have ev : (do let x ← evalE c mo ρ; look (fun st => if bmKind m x st then some () else none); let vs ← evalL c ms ρ; bmVal m x vs : M Val) st = .ok v st' := ev
    obtain ⟨x, st1, e1, ev⟩ := bind_ok ev
    obtain ⟨_, st2, e2, ev⟩ := bind_ok ev
    obtain ⟨vs, st3, e3, ev3⟩ := bind_ok ev
    obtain ⟨q2, rfl⟩ := look_ok e2
    obtain ⟨r, hr, hq⟩ := bm_rule C hm ev3
    obtain ⟨name, hname, hslot, hty⟩ := bm_slot hm
    have hn' := hs
    rw [List.all_cons, Bool.and_eq_true] at hn'
    subst hn hname
    refine ⟨_, pe_bm F.plainAttrs_list hslot hty hr ho h (base_ok hb) (few_ok hs h30) hl (star_cons hn'.1) (plain_args hn'.2), seq1 he hst e1 fun φ1 H1 x' s1 hs1 he1 r1 => ⟨tyL_of C.K hs1 r1 (bmKind_L hm (by split at q2 <;> first | assumption | cases q2)), ?_⟩⟩
    exact seqL he1 hs1 e3 fun φ2 H2 ys s2 hs2 he2 r2 => hq φ2 H2 x' ys Q hs2 (Rel.mono s2 _ _ r1) r2 (Kont.after k (s1.trans s2))
theorem rd_bmL0 (C : CtxOk g X c bl fl) {m : Bm} {n : Str} {o : Expr} {mo : Ex} {apos pos : Pos} (hm : bmL m = true) (hn : n = bmN m) (ho : PE X o (RdE g c mo)) (hb : baseOk o = true) (hl : (apos.endLine == pos.line) = true) :
    PE X (.Call (.Attribute o n apos) [] [] pos) (RdE g c (.bm m mo [])) :=
  PE.of fun σ H Q ⟨φ, ρ, st, v, st', he, hst, ev, k⟩ => by
    have ev : (do let x ← evalE c mo ρ; look (fun st => if bmKind m x st then some () else none); let vs ← evalL c [] ρ; bmVal m x vs : M Val) st = .ok v st' := ev
    obtain ⟨x, st1, e1, ev⟩ := bind_ok ev
    obtain ⟨_, st2, e2, ev⟩ := bind_ok ev
    obtain ⟨vs, st3, e3, ev3⟩ := bind_ok ev
    obtain ⟨q2, rfl⟩ := look_ok e2
    obtain ⟨rfl, rfl⟩ := pure_ok e3
    obtain ⟨r, hr, hq⟩ := bm_rule C hm ev3
    obtain ⟨name, hname, hslot, hty⟩ := bm_slot hm
    subst hn hname
    refine ⟨_, pe_bm0 F.plainAttrs_list hslot hty hr ho (base_ok hb) hl, seq1 he hst e1 fun φ1 H1 x' s1 hs1 he1 r1 => ⟨tyL_of C.K hs1 r1 (bmKind_L hm (by split at q2 <;> first | assumption | cases q2)), ?_⟩⟩
    exact hq φ1 H1 x' [] Q hs1 r1 (by simp [RelL]) (Kont.after k s1)

/-! ### methods of dicts -/
theorem tree1 {env : PySem.Env} {pos : Pos} {e : Expr} (h : notStar e = true) : backTo pos (starEach [e] env) = [(false, eval e env)] := by
  rw [star_cons h]; rfl
theorem tree2 {env : PySem.Env} {pos : Pos} {e f : Expr} (h : notStar e = true) (h2 : notStar f = true) : backTo pos (starEach [e, f] env) = [(false, eval e env), (false, eval f env)] := by
  rw [star_cons h, star_cons h2]; rfl
theorem RelD.getD {φ : Fm} {H : Hp} {kvs : List (Val × Val)} {ws : List (L2.Key × V)} {kk d : Val} {k' : L2.Key} {x : V} (r : RelD g φ H kvs ws) (e : keyV kk = some k') (rd : Rel g φ H d x) : Rel g φ H ((getK kvs kk).getD d) ((valV ws k').getD x) := by
  obtain ⟨h1, h2⟩ := r.get e
  cases q : getK kvs kk with
  | none => rw [h2 q]; exact rd
  | some u =>
    obtain ⟨y, h3, h4⟩ := h1 u q
    rw [h3]; exact h4
/-! dict.get of a dict of the module -/
section
variable {P : Program} {pins : List (Addr × PySem.Obj)} {σ : L2.St} {H : Hp} {s : Shared} {a : Addr} {y d : V} {u r : Value} {A : Around} {E : Value → Shared → Prop} {es : Array DictEntry} {n : Nat}
theorem kd_no {X : Cx} (I : Inv X pins σ H s) (D : KDict X.K X.w a es n) : ∀ b, Value.ref a = .ref b → ∃ ob, s.heap.get? b = some ob ∧ ob.dict = none := fun b q => by
  cases q
  exact ⟨_, I.kIn _ _ D.at_, rfl⟩
end
def tKGet1 (K : PySem.W.Frag) (w : World) (td ty : TE) : TE := fun σ H Q => td σ H fun x H1 => ∃ a es n, x = .ref a ∧ KDict K w a es n ∧ ty σ H1 fun y H2 => ∃ (z : Str) (r : Option Value) (v : V), y = .str z ∧ PySem.W.nsIn K a z = some r ∧ (∀ u, RelV .non u → RelV v (r.getD u)) ∧ Q v H2
def tKGet2 (K : PySem.W.Frag) (w : World) (td ty tx : TE) : TE := fun σ H Q => td σ H fun x H1 => ∃ a es n, x = .ref a ∧ KDict K w a es n ∧ ty σ H1 fun y H2 => tx σ H2 fun dv H3 => ∃ (z : Str) (r : Option Value) (v : V), y = .str z ∧ PySem.W.nsIn K a z = some r ∧ (∀ u, RelV dv u → RelV v (r.getD u)) ∧ Q v H3
theorem pe_kget1 {X : Cx} {o e : Expr} {apos cpos : Pos} {td ty : TE} (ho : PE X o td) (he : PE X e ty) (m : M1 X o "get" apos e cpos) : PE X (.Call (.Attribute o "get" apos) [e] [] cpos) (tKGet1 X.K X.w td ty) := by
  refine ⟨fun pins s σ H Q I h => ?_⟩
  refine wpAny_Call_method m.base m.few m.line PySem.F.plainAttrs_dict PySem.F.slot_dict_get PySem.F.type_dict_get (thn (ho.run pins s σ H _ I h) fun u s1 ⟨x, H1, I1, rx, a, es, n, ex, D, q1⟩ => ?_)
  subst ex
  obtain rfl : u = Value.ref a := rx
  refine ⟨kd_type D I1, kd_no I1 D, ?_⟩
  rw [m.trees]
  refine Calls.callWith_builtin rfl (Calls.evalArgs_plain (Calls.spliced_cons (thn (he.run pins s1 σ H1 _ I1 q1) fun iv s2 ⟨y, H2, I2, ry, z, r, v, ey, hn, hv, q2⟩ => Calls.spliced_nil ?_)))
  subst ey
  obtain ⟨t, rfl⟩ := ry
  refine call_meetsIn PySem.F.slot_dict_get (kd_type D I2) PySem.F.entry_dict_get (PySem.F.args_dict_get_2 _ _) (meets_dict_get (strKind X.prog X.w) a (PySem.strKind_is X.prog X.w z t) D.low) ⟨_, PySem.W.mapOf_K (prog := X.prog) I2.kIn D.at_ D.lit, ?_⟩
  rw [PySem.W.find_K D.at_ hn]
  exact ⟨v, H2, I2.tok _, hv _ rfl, q2⟩
theorem pe_kget2 {X : Cx} {o e f : Expr} {apos cpos : Pos} {td ty tx : TE} (ho : PE X o td) (he : PE X e ty) (hf : PE X f tx) (m : M2 X o "get" apos e f cpos) : PE X (.Call (.Attribute o "get" apos) [e, f] [] cpos) (tKGet2 X.K X.w td ty tx) := by
  refine ⟨fun pins s σ H Q I h => ?_⟩
  refine wpAny_Call_method m.base m.few m.line PySem.F.plainAttrs_dict PySem.F.slot_dict_get PySem.F.type_dict_get (thn (ho.run pins s σ H _ I h) fun u s1 ⟨x, H1, I1, rx, a, es, n, ex, D, q1⟩ => ?_)
  subst ex
  obtain rfl : u = Value.ref a := rx
  refine ⟨kd_type D I1, kd_no I1 D, ?_⟩
  rw [m.trees]
  refine Calls.callWith_builtin rfl (Calls.evalArgs_plain (Calls.spliced_cons (thn (he.run pins s1 σ H1 _ I1 q1) fun iv s2 ⟨y, H2, I2, ry, q2⟩ =>
    Calls.spliced_cons (thn (hf.run pins s2 σ H2 _ I2 q2) fun fv s3 ⟨dv, H3, I3, rz, z, r, v, ey, hn, hv, q3⟩ => Calls.spliced_nil ?_))))
  subst ey
  obtain ⟨t, rfl⟩ := ry
  refine call_meetsIn PySem.F.slot_dict_get (kd_type D I3) PySem.F.entry_dict_get (PySem.F.args_dict_get_3 _ _ _) (meets_dict_get_default (strKind X.prog X.w) a (PySem.strKind_is X.prog X.w z t) D.low fv) ⟨_, PySem.W.mapOf_K (prog := X.prog) I3.kIn D.at_ D.lit, ?_⟩
  rw [PySem.W.find_K D.at_ hn]
  exact ⟨v, H3, I3.tok _, hv _ rz, q3⟩
theorem kd_rel {X : Cx} {φ : Fm} {H : Hp} {kvs : List (Str × Val)} {x : V} (eK : X.K = g.K) (ew : X.w = g.w) (r : Rel g φ H (.kdct kvs) x) : ∃ a es n, x = .ref a ∧ KDict X.K X.w a es n ∧
    ∀ (z : Str) (w : Val) (dv : V) (φ2 : Fm) (H2 : Hp), Step φ φ2 H H2 → Rel g φ2 H2 w dv → ∃ r y, PySem.W.nsIn X.K a z = some r ∧ (∀ u, RelV dv u → RelV y (r.getD u)) ∧ Rel g φ2 H2 ((getF kvs z).getD w) y := by
  simp only [Rel] at r
  obtain ⟨a, rfl, ⟨es, n, D⟩, hn, r⟩ := r
  rw [eK, ew]
  refine ⟨a, es, n, rfl, D, fun z w dv φ2 H2 s rd => ?_⟩
  cases q : getF kvs z with
  | none => exact ⟨none, dv, hn z q, fun u h => h, rd⟩
  | some v =>
    obtain ⟨u, y, h1, h2, h3⟩ := r.get q
    exact ⟨some u, y, h1, fun _ _ => h2, Rel.mono s _ _ h3⟩
theorem rd_get1 (C : CtxOk g X c bl fl) {o e : Expr} {mo m : Ex} {apos pos : Pos} (ho : PE X o (RdE g c mo)) (h : PE X e (RdE g c m)) (hb : baseOk o = true) (hs : notStar e = true) (hl : (apos.endLine == pos.line) = true) :
    PE X (.Call (.Attribute o "get" apos) [e] [] pos) (RdE g c (.bm .get1 mo [m])) :=
  PE.of fun σ H Q ⟨φ, ρ, st, v, st', he, hst, ev, k⟩ => by
    have ev : (do let x ← evalE c mo ρ; look (fun st => if bmKind .get1 x st then some () else none); let vs ← evalL c [m] ρ; bmVal .get1 x vs : M Val) st = .ok v st' := ev
    obtain ⟨x, st1, e1, ev⟩ := bind_ok ev
    obtain ⟨_, st2, e2, ev⟩ := bind_ok ev
    obtain ⟨vs, st3, e3, ev3⟩ := bind_ok ev
    obtain ⟨q2, rfl⟩ := look_ok e2
    obtain ⟨u, rfl, e4⟩ := evalL1 e3
    have hu := C.hu
    by_cases hkd : ∃ kvs, x = .kdct kvs
    · obtain ⟨kvs, rfl⟩ := hkd
      cases u with
      | str z =>
        have ev4 : (pure ((getF kvs z).getD .non) : M Val) st3 = .ok v st' := ev3
        obtain ⟨rfl, rfl⟩ := pure_ok ev4
        refine ⟨_, pe_kget1 ho h ⟨base_ok hb, few_ok (es := [e]) (by rw [List.all_cons, hs]; rfl) (by simp), hl, tree1 hs⟩, seq1 he hst e1 fun φ1 H1 x' s1 hs1 he1 r1 => ?_⟩
        obtain ⟨a, es, n, rfl, D, hg⟩ := kd_rel C.K C.w r1
        refine ⟨a, es, n, rfl, D, seq1 he1 hs1 e4 fun φ2 H2 y s2 hs2 he2 r2 => ?_⟩
        simp only [Rel] at r2
        subst r2
        obtain ⟨r, y, h1, h2, h3⟩ := hg z .non .non φ2 H2 (s2) (by simp [Rel])
        exact ⟨z, r, y, rfl, h1, h2, (Kont.after k (s1.trans s2)).flat hs2 h3⟩
      | _ => cases (show (Res.bad : Res Val) = _ from ev3)
    have q2' : (dctOf st1 x).isSome = true := by
      cases x <;> first | exact absurd ⟨_, rfl⟩ hkd | (split at q2; (first | assumption | rfl); cases q2)
    obtain ⟨kvs1, hk1⟩ := Option.isSome_iff_exists.mp q2'
    have ev4 : look (fun st => if keyOk u then (dctOf st x).map fun kvs => (getK kvs u).getD .non else none) st3 = .ok v st' := by
      cases x <;> first | exact absurd ⟨_, rfl⟩ hkd | exact ev3
    obtain ⟨q3, q3e⟩ := look_ok ev4
    subst q3e
    refine ⟨_, pe_dget1 (by omega) ho h ⟨base_ok hb, few_ok (es := [e]) (by rw [List.all_cons, hs]; rfl) (by simp), hl, tree1 hs⟩, seq1 he hst e1 fun φ1 H1 x' s1 hs1 he1 r1 => ?_⟩
    obtain ⟨a, ws, rfl, h1, _⟩ := dctOf_rel hs1 hk1 r1
    refine ⟨a, rfl, .inl ⟨ws, .inl h1⟩, seq1 he1 hs1 e4 fun φ2 H2 y s2 hs2 he2 r2 => ?_⟩
    split at q3
    · rename_i hk
      obtain ⟨kvs, hk2, rfl⟩ := Option.map_eq_some_iff.mp q3
      obtain ⟨a', ws', e5, h3, h4⟩ := dctOf_rel hs2 hk2 (Rel.mono s2 _ _ r1)
      cases e5
      obtain ⟨k', hk3, rfl⟩ := key_rel hk r2
      exact ⟨_, DGet.k h3, (Kont.after k (s1.trans s2)).flat hs2 (h4.getD hk3 (by simp [Rel]))⟩
    · cases q3
theorem rd_get2 (C : CtxOk g X c bl fl) {o e f : Expr} {mo m n : Ex} {apos pos : Pos} (ho : PE X o (RdE g c mo)) (h : PE X e (RdE g c m)) (hf : PE X f (RdE g c n)) (hb : baseOk o = true) (hs : notStar e = true) (hs2 : notStar f = true) (hl : (apos.endLine == pos.line) = true) :
    PE X (.Call (.Attribute o "get" apos) [e, f] [] pos) (RdE g c (.bm .get2 mo [m, n])) :=
  PE.of fun σ H Q ⟨φ, ρ, st, v, st', he, hst, ev, k⟩ => by
    have ev : (do let x ← evalE c mo ρ; look (fun st => if bmKind .get2 x st then some () else none); let vs ← evalL c [m, n] ρ; bmVal .get2 x vs : M Val) st = .ok v st' := ev
    obtain ⟨x, st1, e1, ev⟩ := bind_ok ev
    obtain ⟨_, st2, e2, ev⟩ := bind_ok ev
    obtain ⟨vs, st3, e3, ev3⟩ := bind_ok ev
    obtain ⟨q2, rfl⟩ := look_ok e2
    obtain ⟨u, w, stm, rfl, e4, e5⟩ := evalL2' e3
    have hu := C.hu
    by_cases hkd : ∃ kvs, x = .kdct kvs
    · obtain ⟨kvs, rfl⟩ := hkd
      cases u with
      | str z =>
        have ev4 : (pure ((getF kvs z).getD w) : M Val) st3 = .ok v st' := ev3
        obtain ⟨rfl, rfl⟩ := pure_ok ev4
        refine ⟨_, pe_kget2 ho h hf ⟨base_ok hb, few_ok (es := [e, f]) (by rw [List.all_cons, hs, List.all_cons, hs2]; rfl) (by simp), hl, tree2 hs hs2⟩, seq1 he hst e1 fun φ1 H1 x' s1 hs1 he1 r1 => ?_⟩
        obtain ⟨a, es, n, rfl, D, hg⟩ := kd_rel C.K C.w r1
        refine ⟨a, es, n, rfl, D, seq2 he1 hs1 e4 e5 fun φ2 H2 y zz s2 hs2 he2 r2 r3 => ?_⟩
        simp only [Rel] at r2
        subst r2
        obtain ⟨r, y, h1, h2, h3⟩ := hg z w zz φ2 H2 (s2) r3
        exact ⟨z, r, y, rfl, h1, h2, (Kont.after k (s1.trans s2)).flat hs2 h3⟩
      | _ => cases (show (Res.bad : Res Val) = _ from ev3)
    have q2' : (dctOf st1 x).isSome = true := by
      cases x <;> first | exact absurd ⟨_, rfl⟩ hkd | (split at q2; (first | assumption | rfl); cases q2)
    obtain ⟨kvs1, hk1⟩ := Option.isSome_iff_exists.mp q2'
    have ev4 : look (fun st => if keyOk u then (dctOf st x).map fun kvs => (getK kvs u).getD w else none) st3 = .ok v st' := by
      cases x <;> first | exact absurd ⟨_, rfl⟩ hkd | exact ev3
    obtain ⟨q3, q3e⟩ := look_ok ev4
    subst q3e
    refine ⟨_, pe_dget2 (by omega) ho h hf ⟨base_ok hb, few_ok (es := [e, f]) (by rw [List.all_cons, hs, List.all_cons, hs2]; rfl) (by simp), hl, tree2 hs hs2⟩, seq1 he hst e1 fun φ1 H1 x' s1 hs1 he1 r1 => ?_⟩
    obtain ⟨a, ws, rfl, h1, _⟩ := dctOf_rel hs1 hk1 r1
    refine ⟨a, rfl, .inl ⟨ws, .inl h1⟩, seq2 he1 hs1 e4 e5 fun φ2 H2 y z s2 hs2 he2 r2 r3 => ?_⟩
    split at q3
    · rename_i hk
      obtain ⟨kvs, hk2, rfl⟩ := Option.map_eq_some_iff.mp q3
      obtain ⟨a', ws', e5, h3, h4⟩ := dctOf_rel hs2 hk2 (Rel.mono s2 _ _ r1)
      cases e5
      obtain ⟨k', hk3, rfl⟩ := key_rel hk r2
      exact ⟨_, DGet.k h3, (Kont.after k (s1.trans s2)).flat hs2 (h4.getD hk3 r3)⟩
    · cases q3
end
end Mn

end

section
set_option maxHeartbeats 1000000
/-! Mn: dict displays, isinstance. -/
namespace Mn
open PySem PySem.Spec PyProof.Rows L2

section
variable {g : Gm} {c : Cf} {X : Cx} {bl fl : List Str}
/-! ### {k: v, ..} -/
def flatE : List (Ex × Ex) → List Ex
  | [] => []
  | p :: r => p.1 :: p.2 :: flatE r
def RelP (g : Gm) (φ : Fm) (H : Hp) : List (Val × Val) → List (V × V) → Prop
  | [], ps => ps = []
  | (k, v) :: r, ps => ∃ x y s, ps = (x, y) :: s ∧ Rel g φ H k x ∧ Rel g φ H v y ∧ RelP g φ H r s
theorem rd_pairs {σ : L2.St} {ρ : Env} : ∀ {es : List (Ex × Ex)} {φ : Fm} {H : Hp} {st st' : Store} {vs : List Val} {R : List (V × V) → Hp → Prop}, RelEnv g φ H ρ σ → RelSt g φ st H → evalL c (flatE es) ρ st = .ok vs st' →
    (∀ φ' H' kvs ps, pairUp vs = some kvs → Step φ φ' H H' → RelSt g φ' st' H' → RelP g φ' H' kvs ps → R ps H') → tPairs (es.map fun p => (RdE g c p.1, RdE g c p.2)) σ H R
  | [], φ, H, st, st', vs, R, he, hs, ev, k => by
    obtain ⟨rfl, rfl⟩ := pure_ok ev
    exact k φ H [] [] rfl (Step.refl _ _) hs rfl
  | (a, b) :: es, φ, H, st, st', vs, R, he, hs, ev, k => by
    have ev : (do let v ← evalE c a ρ; let vs ← evalL c (b :: flatE es) ρ; pure (v :: vs) : M (List Val)) st = .ok vs st' := ev
    obtain ⟨x, st1, e1, ev⟩ := bind_ok ev
    obtain ⟨xs, st2, e2, ev⟩ := bind_ok ev
    obtain ⟨rfl, rfl⟩ := pure_ok ev
    have e2 : (do let v ← evalE c b ρ; let vs ← evalL c (flatE es) ρ; pure (v :: vs) : M (List Val)) st1 = .ok xs _ := e2
    obtain ⟨y, st3, e3, e2⟩ := bind_ok e2
    obtain ⟨ys, st4, e4, e2⟩ := bind_ok e2
    obtain ⟨rfl, rfl⟩ := pure_ok e2
    show RdE g c a σ H fun x H1 => RdE g c b σ H1 fun y H2 => tPairs (es.map fun p => (RdE g c p.1, RdE g c p.2)) σ H2 fun ps H3 => R ((x, y) :: ps) H3
    refine seq2 he hs e1 e3 fun φ2 H2 x' y' s2 hs2 he2 rx ry => ?_
    refine rd_pairs he2 hs2 e4 fun φ' H' kvs ps hp s hs' r => ?_
    refine k φ' H' ((x, y) :: kvs) ((x', y') :: ps) (by simp [pairUp, hp]) (s2.trans s) hs' ?_
    exact ⟨_, _, _, rfl, Rel.mono s _ _ rx, Rel.mono s _ _ ry, r⟩
theorem RelP.keys {φ : Fm} {H : Hp} : ∀ {kvs : List (Val × Val)} {ps : List (V × V)}, RelP g φ H kvs ps → (kvs.all fun q => isKey q.1) = true → ∃ ws : List (L2.Key × V), ps = ws.map (fun kv => (kV kv.1, kv.2)) ∧ RelD g φ H kvs ws
  | [], ps, h, _ => by
    have h : ps = [] := h
    subst h
    exact ⟨[], rfl, by simp [RelD]⟩
  | (k, v) :: r, ps, h, hk => by
    obtain ⟨x, y, s, rfl, h1, h2, h3⟩ := h
    rw [List.all_cons, Bool.and_eq_true] at hk
    obtain ⟨ws, rfl, h4⟩ := RelP.keys h3 hk.2
    obtain ⟨k', e, rfl⟩ := key_rel hk.1 h1
    refine ⟨(k', y) :: ws, rfl, ?_⟩
    simp only [RelD]
    exact ⟨k', y, ws, rfl, e, h2, h4⟩
theorem RelD.merge {φ : Fm} {H : Hp} : ∀ {more : List (Val × Val)} {ms : List (L2.Key × V)} {kvs : List (Val × Val)} {ws : List (L2.Key × V)}, RelD g φ H more ms → RelD g φ H kvs ws → RelD g φ H (mergeKv kvs more) (mergeK ws ms)
  | [], ms, kvs, ws, h, r => by simp only [RelD] at h; subst h; exact r
  | (k, v) :: m, ms, kvs, ws, h, r => by
    simp only [RelD] at h
    obtain ⟨k', y, s, rfl, e, h1, h2⟩ := h
    show RelD g φ H (mergeKv (putKv kvs k v) m) (mergeK (putK ws k' y) s)
    exact RelD.merge h2 (r.put e h1)
theorem rd_dct (C : CtxOk g X c bl fl) {cell : Bool} {keys : List (Option Expr)} {values : List Expr} {es : List (Ex × Ex)} {pos : Pos} (h : PPs X pos keys values (es.map fun p => (RdE g c p.1, RdE g c p.2))) (hall : keys.all (·.isSome) = true) (hl : keys.length = values.length) (h0 : keys ≠ []) (h15 : keys.length ≤ 15) :
    PE X (.Dict keys values pos) (RdE g c (.dct cell (flatE es))) :=
  PE.of fun σ H Q ⟨φ, ρ, st, v, st', he, hs, ev, k⟩ => by
    have ev : (do let vs ← evalL c (flatE es) ρ; let kvs ← lift (pairUp vs); guardM (kvs.all (fun q => isKey q.1) && decide (kvs.length ≤ 15)); mkDct cell (mergeKv [] kvs) : M Val) st = .ok v st' := ev
    obtain ⟨vs, st1, e1, ev⟩ := bind_ok ev
    obtain ⟨kvs, st2, e2, ev⟩ := bind_ok ev
    obtain ⟨_, st3, e3, ev3⟩ := bind_ok ev
    obtain ⟨q2, rfl⟩ := lift_ok e2
    obtain ⟨q3, rfl⟩ := guard_ok e3
    rw [Bool.and_eq_true, decide_eq_true_eq] at q3
    refine ⟨_, pe_disp h hall hl h0 h15, fun p hp => ?_⟩
    refine rd_pairs (RelEnv.monoK (Kp.hide hp) he) (hs.hide hp) e1 fun φ' H' kvs' ps hpu s hs' r => ?_
    rw [q2] at hpu; cases hpu
    obtain ⟨ws, rfl, rd⟩ := r.keys q3.1
    have sx : StepX p φ φ' H H' := (StepX.start hp).step s
    have mem : p ∈ φ'.hid := by rw [sx.hid]; exact List.mem_cons_self ..
    have hH : H' p = some (.dK []) := s.keep _ _ upd_same ((hs.hide (o := .dK []) hp).dis p (List.mem_cons_self ..))
    have rm : RelD g φ' H' (mergeKv [] kvs) (mergeK [] ws) := rd.merge (by simp [RelD])
    have rm2 := RelD.monoK (Kp.put (o := .dK (mergeK [] ws)) mem) _ _ rm
    refine ⟨hH, ws, rfl, by rw [← rd.length]; exact q3.2, ?_⟩
    refine (sx.put).done (ob := .dct (mergeKv [] kvs)) (u := .dct (mergeKv [] kvs)) (hs'.putH mem) hs ⟨_, upd_same, rm2⟩ (fun φ2 hd hk => by simp only [Rel]; exact ⟨p, _, rfl, hd, upd_same, RelD.monoK hk _ _ rm2⟩) (cell := cell) ?_ k
    cases cell <;> exact ev3

theorem rd_dct0 {cell : Bool} {pos : Pos} : PE X (.Dict [] [] pos) (RdE g c (.dct cell [])) :=
  PE.of fun σ H Q ⟨φ, ρ, st, v, st', he, hs, ev, k⟩ => by
    have ev : (do let vs ← evalL c [] ρ; let kvs ← lift (pairUp vs); guardM (kvs.all (fun q => isKey q.1) && decide (kvs.length ≤ 15)); mkDct cell (mergeKv [] kvs) : M Val) st = .ok v st' := ev
    obtain ⟨vs, st1, e1, ev⟩ := bind_ok ev
    obtain ⟨kvs, st2, e2, ev⟩ := bind_ok ev
    obtain ⟨_, st3, e3, ev3⟩ := bind_ok ev
    obtain ⟨rfl, rfl⟩ := pure_ok e1
    obtain ⟨q2, rfl⟩ := lift_ok e2
    obtain ⟨q3, rfl⟩ := guard_ok e3
    cases q2
    exact ⟨_, pe_dnewK, fun p hp => Kont.dct (o := .dK []) (H0 := H) (p := p) (xs := []) (vs := []) k ev3 hs (by simp [RelD]) hp⟩

/-! ### isinstance(e, T), T a built-in type -/
def tyTab : List (Str × String) := [("int", "int"), ("bool", "bool"), ("str", "str"), ("tuple", "tuple"), ("list", "list"), ("dict", "dict")]
def tabOk (a : String) (l : List Str) : Bool := tyTab.all fun p => decide (kitB a p.2 = some (l.contains p.1))
theorem tab_ok {a : String} {l : List Str} (h : tabOk a l = true) {T : Str} {Ts : String} (ht : (T, Ts) ∈ tyTab) (K : PySem.W.Frag) : PySem.W.kitOne K (.type a) (.type Ts) = some (l.contains T) := by
  have := List.all_eq_true.mp h _ ht
  exact kit_ty (of_decide_eq_true this)
theorem ty_boot {T : Str} {Ts : String} (ht : (T, Ts) ∈ tyTab) : bootBuiltins T = some (.type Ts) := by
  have h : (tyTab.all fun p => decide (bootBuiltins p.1 = some (.type p.2))) = true := by decide +kernel
  exact of_decide_eq_true (List.all_eq_true.mp h _ ht)
theorem isi_rule (hK : X.K = g.K) {T : Str} {Ts : String} (ht : (T, Ts) ∈ tyTab) {v : Val} {b : Bool} {st : Store} (h : isTy st v T = some b) {φ : Fm} {H : Hp} {x : V} (hs : RelSt g φ st H) (r : Rel g φ H v x) : ∃ t, TyX X.K H x t ∧ PySem.W.kitOne X.K t (.type Ts) = some b := by
  cases v <;> simp only [isTy] at h <;> first | (cases h; done) | skip
  case non =>
    simp only [Rel] at r; subst r
    rw [← h]
    exact ⟨_, .base .non, tab_ok (l := []) (by decide +kernel) ht _⟩
  case bl =>
    simp only [Rel] at r; subst r
    rw [← h]
    exact ⟨_, .base (.bl _), tab_ok (l := ["bool", "int"]) (by decide +kernel) ht _⟩
  case int =>
    simp only [Rel] at r; subst r
    rw [← h]
    exact ⟨_, .base (.int _), tab_ok (l := ["int"]) (by decide +kernel) ht _⟩
  case str =>
    simp only [Rel] at r; subst r
    rw [← h]
    exact ⟨_, .base (.str _), tab_ok (l := ["str"]) (by decide +kernel) ht _⟩
  case tup =>
    simp only [Rel] at r
    obtain ⟨a, vs, rfl, _, ha, _⟩ := r
    rw [← h]
    exact ⟨_, .base (.tup ha), tab_ok (l := ["tuple"]) (by decide +kernel) ht _⟩
  case lst =>
    simp only [Rel] at r
    obtain ⟨a, vs, rfl, _, ha, _⟩ := r
    rw [← h]
    exact ⟨_, .base (.lst ha), tab_ok (l := ["list"]) (by decide +kernel) ht _⟩
  case dct =>
    simp only [Rel] at r
    obtain ⟨a, vs, rfl, _, ha, _⟩ := r
    rw [← h]
    exact ⟨_, .base (.dK ha), tab_ok (l := ["dict"]) (by decide +kernel) ht _⟩
  case ref i =>
    simp only [Rel] at r
    obtain ⟨a, rfl, ha⟩ := r
    split at h
    · rename_i xs q
      obtain ⟨vs, h1, h2⟩ := hs.at_ i a _ ha q
      rw [← h]
      exact ⟨_, .base (.lst h1), tab_ok (l := ["list"]) (by decide +kernel) ht _⟩
    · rename_i xs q
      obtain ⟨vs, h1, h2⟩ := hs.at_ i a _ ha q
      rw [← h]
      exact ⟨_, .base (.dK h1), tab_ok (l := ["dict"]) (by decide +kernel) ht _⟩
    · cases h
theorem ty_names {T : Str} {Ts : String} (ht : (T, Ts) ∈ tyTab) : T ≠ "__name__" ∧ (T == ("__debug__" : Str)) = false := by
  have h : (tyTab.all fun p => !(p.1 == ("__name__" : Str)) && !(p.1 == ("__debug__" : Str))) = true := by decide +kernel
  have := List.all_eq_true.mp h _ ht
  simp only [Bool.and_eq_true, Bool.not_eq_true'] at this
  exact ⟨beq_eq_false_iff_ne.mp this.1, this.2⟩
theorem rd_isi (C : CtxOk g X c bl fl) {e : Expr} {m : Ex} {T : Str} {Ts : String} {p1 p2 pos : Pos} (ht : (T, Ts) ∈ tyTab) (he : PE X e (RdE g c m)) (hn : notStar e = true) (hg : glB X.env.scope "isinstance" = true) (hb : bl.contains "isinstance" = true) (hgT : glB X.env.scope T = true) (hbT : bl.contains T = true) :
    PE X (.Call (.Name "isinstance" p1) [e, .Name T p2] [] pos) (RdE g c (.isi m T)) :=
  PE.of fun σ H Q ⟨φ, ρ, st, v, st', hre, hs, ev, k⟩ => by
    have ev : (do let x ← evalE c m ρ; let b ← look (fun st => isTy st x T); pure (.bl b) : M Val) st = .ok v st' := ev
    obtain ⟨x, st1, e1, ev⟩ := bind_ok ev
    obtain ⟨b, st2, e2, ev⟩ := bind_ok ev
    obtain ⟨q2, rfl⟩ := look_ok e2
    obtain ⟨rfl, rfl⟩ := pure_ok ev
    refine ⟨_, pe_callB call_isi (glB_ok hg) (C.blt _ (List.contains_iff_mem.mp hb)) (by decide +kernel) (pa_cons he (pa_cons (pe_bltn (v := .ty Ts) (u := .type Ts) (glB_ok hgT) (C.blt _ (List.contains_iff_mem.mp hbT)) (ty_boot ht) rfl (ty_names ht).1 (ty_names ht).2) pa_nil) (star_cons hn)) (by decide) (by decide) (star_cons hn) rfl, seq1 hre hs e1 fun φ1 H1 x' s1 hs1 he1 r1 => ?_⟩
    obtain ⟨t, h1, h2⟩ := isi_rule C.K ht q2 hs1 r1
    exact ⟨x', .ty Ts, t, .type Ts, b, rfl, .ty Ts, h1, h2, (Kont.after k s1).flat hs1 (by simp [Rel])⟩
end
end Mn

end

section
set_option maxHeartbeats 1000000
/-! Mn: statements. -/
namespace Mn
open PySem PySem.Spec PyProof.Rows L2

def isStar : Expr → Bool
  | .Starred .. => true
  | _ => false
def swN (sc : Scope) (ts : List Expr) : List Str :=
  let line := (ts.head?.map (·.pos.line)).getD 0
  ts.filterMap fun
    | .Name id pos => if sc.names.lookup id == some .local && pos.line == line then some id else none
    | _ => none
/-- what swappedStores says of two tuples -/
def swp2 (sc : Scope) (ts vs : List Expr) : Option (Option (List Str)) :=
  if !(ts.length == 2 || ts.length == 3) || vs.length != ts.length then some none
  else if vs.any isStar then some none
  else if (swN sc ts).length != ts.length || (swN sc ts).eraseDups.length != (swN sc ts).length then some none
  else if vs.all (foldedForSure 8) then some none
  else if vs.all (constantsAlone 8) then none
  else some (some (swN sc ts))
theorem blockKind_fn {env : PySem.Env} (h : env.scope.kind = .function) : env.blockKind = .function := by
  unfold PySem.Env.blockKind; rw [h]; rfl
theorem swp2_ok {env : PySem.Env} (hk : env.scope.kind = .function) {ts vs : List Expr} {k1 k2 : Nat} {p1 p2 : Pos} {r : Option (List Str)} (h : swp2 env.scope ts vs = some r) : swappedStores [.Tuple ts k1 p1] (.Tuple vs k2 p2) env = pure r := by
  unfold swp2 at h
  have hb := blockKind_fn hk
  have e : swappedStores [.Tuple ts k1 p1] (.Tuple vs k2 p2) env = (if (!(ts.length == 2 || ts.length == 3) || vs.length != ts.length || env.blockKind != .function) = true then pure none
    else if vs.any isStar = true then pure none
    else if ((swN env.scope ts).length != ts.length || (swN env.scope ts).eraseDups.length != (swN env.scope ts).length) = true then pure none
    else if vs.all (foldedForSure 8) = true then pure none
    else if vs.all (constantsAlone 8) = true then (do unsupported "assign.tuple-of-constant-expressions:order-of-the-stores"; return some (swN env.scope ts))
    else pure (some (swN env.scope ts))) := by rfl
  rw [e, hb]
  have e1 : ((ScopeKind.function != ScopeKind.function) = false) := by decide
  rw [e1, Bool.or_false]
  split at h
  · rename_i c; cases h
    rw [if_pos c]
  · rename_i c
    rw [if_neg c]
    split at h
    · rename_i c2; cases h
      rw [if_pos c2]
    · rename_i c2
      rw [if_neg c2]
      split at h
      · rename_i c3; cases h
        rw [if_pos c3]
      · rename_i c3
        rw [if_neg c3]
        split at h
        · rename_i c4; cases h
          rw [if_pos c4]
        · rename_i c4
          rw [if_neg c4]
          split at h
          · cases h
          · rename_i c5
            cases h
            rw [if_neg c5]
def swpB (sc : Scope) (t v : Expr) : Option (Option (List Str)) := match t, v with
  | .Tuple ts _ _, .Tuple vs _ _ => swp2 sc ts vs
  | .List _ _, _ => none
  | _, _ => some none
theorem swpB_ok {env : PySem.Env} (hk : env.scope.kind = .function) {t v : Expr} {r : Option (List Str)} (h : swpB env.scope t v = some r) : swappedStores [t] v env = pure r := by
  unfold swpB at h
  split at h
  · exact swp2_ok hk h
  · cases h
  · rename_i h1 h2
    cases h
    cases t <;> first | rfl | (cases v <;> first | rfl | exact (h1 _ _ _ _ _ _ rfl rfl).elim | exact (h2 _ _ _ _ _ _ rfl rfl).elim) | exact (h2 _ _ rfl).elim | exact (h1 _ _ rfl).elim
/-! ### what the tree says of stores -/
def noComp : Expr → Bool
  | .ListComp _ _ _ _ => false
  | .SetComp _ _ _ _ => false
  | .DictComp _ _ _ _ _ => false
  | _ => true
theorem sw_no {e : Expr} (h : noComp e = true) (t : Option Expr) (l : Nat) (env : PySem.Env) : swapsWith e t l env = pure false := by
  cases e <;> first | rfl | cases h
def isName : Expr → Bool
  | .Name _ _ => true
  | _ => false
theorem sw_target {e t : Expr} (h : isName t = false) (l : Nat) (env : PySem.Env) : swapsWith e (some t) l env = pure false := by
  cases t <;> first | exact Bool.noConfusion h | (cases e <;> rfl)
theorem sw_sole {e t : Expr} (h : isName t = false) (l : Nat) (env : PySem.Env) : swapsWithSole [t] e l env = pure false := sw_target h l env
def swcB (sc scope : Scope) (y : Str) (py pos : Pos) : Bool := sc.names.lookup y == some .local && py.line == pos.line && !(scope.names.any fun (n, k) => n == y && (k == .local || k == .cell))
theorem swc_ok {env : PySem.Env} (hk : env.scope.kind = .function) {elt : Expr} {gs : List Comprehension} {scope : Scope} {pos py : Pos} {y : Str} {l : Nat} : swapsWith (.ListComp elt gs scope pos) (some (.Name y py)) l env = pure (swcB env.scope scope y py pos) := by
  have e : swapsWith (.ListComp elt gs scope pos) (some (.Name y py)) l env = pure (env.blockKind == .function && env.kindOf y == some .local && py.line == pos.line && !(scope.names.any fun (n, k) => n == y && (k == .local || k == .cell))) := by rfl
  rw [e, blockKind_fn hk]
  rfl
def notSlice : Expr → Bool
  | .Slice _ _ _ _ => false
  | _ => true
theorem assign_each {e : Expr} (h : notStar e = true) (es : List Expr) (env : PySem.Env) : assignEach (e :: es) env = (false, assign e env) :: assignEach es env := by
  cases e <;> first | rfl | cases h
theorem assign_len {env : PySem.Env} : ∀ {es : List Expr}, es.all notStar = true → (assignEach es env).length = es.length ∧ (assignEach es env).findIdx? (·.1) = none
  | [], _ => ⟨rfl, rfl⟩
  | e :: es, h => by
    rw [List.all_cons, Bool.and_eq_true] at h
    rw [assign_each h.1]
    obtain ⟨h1, h2⟩ := assign_len (env := env) h.2
    refine ⟨by simp [h1], ?_⟩
    rw [List.findIdx?_cons]
    simp [h2]

section
variable {g : Gm} {c : Cf} {X : Cx} {bl fl : List Str}
/-! ### readings -/
def FlOk (g : Gm) (φ : Fm) (H : Hp) (fl : Flow) (st' : Store) (D : Ends) : Prop := match fl with
  | .nxt ρ' => ∀ φ' H' σ', Step φ φ' H H' → RelSt g φ' st' H' → RelEnv g φ' H' ρ' σ' → D.nx σ' H'
  | .ret v => ∀ φ' H' x, Step φ φ' H H' → RelSt g φ' st' H' → Rel g φ' H' v x → D.rt x H'
  | .brk ρ' => ∀ φ' H' σ', Step φ φ' H H' → RelSt g φ' st' H' → RelEnv g φ' H' ρ' σ' → D.bk σ' H'
  | .cnt ρ' => ∀ φ' H' σ', Step φ φ' H H' → RelSt g φ' st' H' → RelEnv g φ' H' ρ' σ' → D.ct σ' H'
def RdF (g : Gm) (m : Env → M Flow) : TS := fun D σ H => ∃ φ ρ st fl st', RelEnv g φ H ρ σ ∧ RelSt g φ st H ∧ m ρ st = .ok fl st' ∧ FlOk g φ H fl st' D
abbrev RdS (g : Gm) (c : Cf) (m : Sm) : TS := RdF g (execS c m)
abbrev RdB (g : Gm) (c : Cf) (m : List Sm) : TS := RdF g (execB c m)
theorem FlOk.after {φ φ1 : Fm} {H H1 : Hp} {fl : Flow} {st' : Store} {D : Ends} (k : FlOk g φ H fl st' D) (s : Step φ φ1 H H1) : FlOk g φ1 H1 fl st' D := by
  cases fl with
  | nxt ρ => exact fun φ' H' σ' s' hs r => k φ' H' σ' (s.trans s') hs r
  | ret v => exact fun φ' H' x s' hs r => k φ' H' x (s.trans s') hs r
  | brk ρ => exact fun φ' H' σ' s' hs r => k φ' H' σ' (s.trans s') hs r
  | cnt ρ => exact fun φ' H' σ' s' hs r => k φ' H' σ' (s.trans s') hs r
theorem PSs.of {e : List Stmt} {t : TS} (h : ∀ D σ H, t D σ H → ∃ t', PSs X e t' ∧ t' D σ H) : PSs X e t :=
  ⟨fun pins s σ H D I q => let ⟨_, p, r⟩ := h D σ H q; p.run pins s σ H D I r⟩
theorem rb_nil : PSs X [] (RdB g c []) := PSs.of fun D σ H ⟨φ, ρ, st, fl, st', he, hs, ev, k⟩ => by
  obtain ⟨rfl, rfl⟩ := pure_ok ev
  exact ⟨_, pss_nil, k φ H σ (Step.refl _ _) hs he⟩
theorem rb_cons {s : Stmt} {r : List Stmt} {m : Sm} {ms : List Sm} (h1 : PS X s (RdS g c m)) (h2 : PSs X r (RdB g c ms)) : PSs X (s :: r) (RdB g c (m :: ms)) := PSs.of fun D σ H ⟨φ, ρ, st, fl, st', he, hs, ev, k⟩ => by
  have ev : (do let f ← execS c m ρ; (match f with | .nxt ρ => execB c ms ρ | .ret v => pure (.ret v) | .brk ρ => pure (.brk ρ) | .cnt ρ => pure (.cnt ρ)) : M Flow) st = .ok fl st' := ev
  obtain ⟨f, st1, e1, ev⟩ := bind_ok ev
  refine ⟨_, pss_cons h1 h2, φ, ρ, st, f, st1, he, hs, e1, ?_⟩
  cases f with
  | nxt ρ1 => exact fun φ1 H1 σ1 s1 hs1 he1 => ⟨φ1, ρ1, st1, fl, st', he1, hs1, ev, k.after s1⟩
  | ret v =>
    obtain ⟨rfl, rfl⟩ := pure_ok ev
    exact k
  | brk ρ1 =>
    obtain ⟨rfl, rfl⟩ := pure_ok ev
    exact k
  | cnt ρ1 =>
    obtain ⟨rfl, rfl⟩ := pure_ok ev
    exact k
/-! ### small ones -/
theorem rs_bad {s : Stmt} : PS X s (RdS g c .bad) := PS.of fun D σ H ⟨φ, ρ, st, fl, st', he, hs, ev, k⟩ => by cases (show (Res.bad : Res Flow) = _ from ev)
theorem rs_pass {pos : Pos} : PS X (.Pass pos) (RdS g c .pass) := PS.of fun D σ H ⟨φ, ρ, st, fl, st', he, hs, ev, k⟩ => by
  obtain ⟨rfl, rfl⟩ := pure_ok ev
  exact ⟨_, ps_pass, k φ H σ (Step.refl _ _) hs he⟩
theorem rs_brk {pos : Pos} : PS X (.Break pos) (RdS g c .brk) := PS.of fun D σ H ⟨φ, ρ, st, fl, st', he, hs, ev, k⟩ => by
  obtain ⟨rfl, rfl⟩ := pure_ok ev
  exact ⟨_, ps_break, k φ H σ (Step.refl _ _) hs he⟩
theorem rs_cnt {pos : Pos} : PS X (.Continue pos) (RdS g c .cnt) := PS.of fun D σ H ⟨φ, ρ, st, fl, st', he, hs, ev, k⟩ => by
  obtain ⟨rfl, rfl⟩ := pure_ok ev
  exact ⟨_, ps_continue, k φ H σ (Step.refl _ _) hs he⟩
theorem rs_expr {e : Expr} {m : Ex} {pos : Pos} (h : PE X e (RdE g c m)) (hn : noComp e = true) : PS X (.Expr e pos) (RdS g c (.expr m)) := PS.of fun D σ H ⟨φ, ρ, st, fl, st', he, hs, ev, k⟩ => by
  have ev : (do let _ ← evalE c m ρ; pure (.nxt ρ) : M Flow) st = .ok fl st' := ev
  obtain ⟨v, st1, e1, ev⟩ := bind_ok ev
  obtain ⟨rfl, rfl⟩ := pure_ok ev
  exact ⟨_, ps_expr h (sw_no hn none _ _), seq1 he hs e1 fun φ1 H1 x s1 hs1 he1 r1 => k φ1 H1 σ s1 hs1 he1⟩
theorem rs_ret {e : Expr} {m : Ex} {pos : Pos} (h : PE X e (RdE g c m)) : PS X (.Return (some e) pos) (RdS g c (.ret m)) := PS.of fun D σ H ⟨φ, ρ, st, fl, st', he, hs, ev, k⟩ => by
  have ev : (do let v ← evalE c m ρ; pure (.ret v) : M Flow) st = .ok fl st' := ev
  obtain ⟨v, st1, e1, ev⟩ := bind_ok ev
  obtain ⟨rfl, rfl⟩ := pure_ok ev
  exact ⟨_, ps_ret h, seq1 he hs e1 fun φ1 H1 x s1 hs1 he1 r1 => k φ1 H1 x s1 hs1 r1⟩
theorem rs_retN {pos : Pos} : PS X (.Return none pos) (RdS g c .retN) := PS.of fun D σ H ⟨φ, ρ, st, fl, st', he, hs, ev, k⟩ => by
  obtain ⟨rfl, rfl⟩ := pure_ok ev
  exact ⟨_, ps_retN, k φ H .non (Step.refl _ _) hs (by simp [Rel])⟩
theorem rs_if {e : Expr} {a b : List Stmt} {m : Ex} {ma mb : List Sm} {pos : Pos} (hc : PT X e (RdT g c m)) (ha : PSs X a (RdB g c ma)) (hb : PSs X b (RdB g c mb)) : PS X (.If e a b pos) (RdS g c (.ite m ma mb)) := PS.of fun D σ H ⟨φ, ρ, st, fl, st', he, hs, ev, k⟩ => by
  have ev : (do let t ← testE c m ρ; (match t with | true => execB c ma ρ | false => execB c mb ρ) : M Flow) st = .ok fl st' := ev
  obtain ⟨t, st1, e1, ev⟩ := bind_ok ev
  refine ⟨_, ps_if hc ha hb, φ, ρ, st, t, st1, he, hs, e1, fun φ1 H1 b' s1 hs1 e => ?_⟩
  have e : b' = t := e
  subst e
  cases b' with
  | true => exact ⟨φ1, ρ, st1, fl, st', he.mono s1, hs1, ev, k.after s1⟩
  | false => exact ⟨φ1, ρ, st1, fl, st', he.mono s1, hs1, ev, k.after s1⟩

/-! ### targets -/
def RdA (g : Gm) (c : Cf) (t : Tgt) : TG := fun x σ H Q => ∃ φ ρ st v ρ' st', RelEnv g φ H ρ σ ∧ RelSt g φ st H ∧ Rel g φ H v x ∧ assignT c t v ρ st = .ok ρ' st' ∧ ∀ φ' H' σ', Step φ φ' H H' → RelSt g φ' st' H' → RelEnv g φ' H' ρ' σ' → Q σ' H'
def RdAs (g : Gm) (c : Cf) (ts : List Tgt) : TGs := fun xs σ H Q => ∃ φ ρ st vs ρ' st', RelEnv g φ H ρ σ ∧ RelSt g φ st H ∧ RelL g φ H vs xs ∧ assignTs c ts vs ρ st = .ok ρ' st' ∧ ∀ φ' H' σ', Step φ φ' H H' → RelSt g φ' st' H' → RelEnv g φ' H' ρ' σ' → Q σ' H'
theorem ra_nm (hN : X.N.Nodup) {i : Nat} {x : Str} {pos : Pos} (hi : X.N[i]? = some x) (hs : stB X x = true) : PG X (.Name x pos) (RdA g c (.nm i)) :=
  PG.of fun x σ H Q ⟨φ, ρ, st, v, ρ', st', he, hst, rv, ev, k⟩ => by
    obtain ⟨rfl, rfl⟩ := pure_ok ev
    exact ⟨_, pg_name hN hi (stB_ok hs).1 (stB_ok hs).2, k φ H _ (Step.refl _ _) hst (he.set rv i)⟩
theorem ras_nil : PGs X [] (RdAs g c []) :=
  PGs.of fun xs σ H Q ⟨φ, ρ, st, vs, ρ', st', he, hst, rv, ev, k⟩ => by
    cases vs with
    | nil =>
      obtain ⟨rfl, rfl⟩ := pure_ok ev
      simp only [RelL] at rv
      subst rv
      exact ⟨_, pgs_nil, rfl, k φ H σ (Step.refl _ _) hst he⟩
    | cons v vs => exact (bad_ok (st := st) ev).elim
theorem ras_cons {e : Expr} {es : List Expr} {t : Tgt} {ts : List Tgt} (h1 : PG X e (RdA g c t)) (h2 : PGs X es (RdAs g c ts)) (hn : notStar e = true) : PGs X (e :: es) (RdAs g c (t :: ts)) :=
  PGs.of fun xs σ H Q ⟨φ, ρ, st, vs, ρ', st', he, hst, rv, ev, k⟩ => by
    cases vs with
    | nil => exact (bad_ok (st := st) ev).elim
    | cons v vs =>
      have ev : (do let ρ' ← assignT c t v ρ; assignTs c ts vs ρ' : M Env) st = .ok ρ' st' := ev
      obtain ⟨ρ1, st1, e1, ev⟩ := bind_ok ev
      simp only [RelL] at rv
      obtain ⟨y, r, rfl, r1, r2⟩ := rv
      refine ⟨_, pgs_cons h1 h2 (by rw [assign_each hn]; rfl), y, r, rfl, φ, ρ, st, v, ρ1, st1, he, hst, r1, e1, fun φ1 H1 σ1 s1 hs1 he1 => ?_⟩
      exact ⟨φ1, ρ1, st1, vs, ρ', st', he1, hs1, RelL.mono s1 _ _ r2, ev, fun φ2 H2 σ2 s2 => k φ2 H2 σ2 (s1.trans s2)⟩
theorem assignTs_len {ts : List Tgt} : ∀ {vs : List Val} {ρ ρ' : Env} {st st' : Store}, assignTs c ts vs ρ st = .ok ρ' st' → ts.length = vs.length := by
  induction ts with
  | nil => intro vs ρ ρ' st st' h; cases vs <;> first | rfl | exact (bad_ok (st := st) h).elim
  | cons t ts ih => intro vs ρ ρ' st st' h; cases vs with
    | nil => exact (bad_ok (st := st) h).elim
    | cons v vs =>
      have h : (do let ρ' ← assignT c t v ρ; assignTs c ts vs ρ' : M Env) st = .ok ρ' st' := h
      obtain ⟨ρ1, st1, e1, h⟩ := bind_ok h
      simp [ih h]
theorem ra_tup (C : CtxOk g X c bl fl) {es : List Expr} {ts : List Tgt} {k : Nat} {pos : Pos} (hl : es.length = ts.length) (hn : es.all notStar = true) (h : PGs X es (RdAs g c ts)) : PG X (.Tuple es k pos) (RdA g c (.tup ts)) :=
  PG.of fun x σ H Q ⟨φ, ρ, st, v, ρ', st', he, hst, rv, ev, k⟩ => by
    have ev : (do let xs ← look (fun st => seqOf st v); assignTs c ts xs ρ : M Env) st = .ok ρ' st' := ev
    obtain ⟨xs, st1, e1, ev1⟩ := bind_ok ev
    obtain ⟨q1, rfl⟩ := look_ok e1
    obtain ⟨h1, h2⟩ := assign_len (env := X.env) hn
    have hlen := assignTs_len ev1
    unfold seqOf at q1
    cases et : tupOf v with
    | some ys =>
      rw [et] at q1; cases q1
      obtain ⟨a, vs, rfl, g1, g2⟩ := tupOf_rel et rv
      exact ⟨_, pg_tup C.calm h h1 h2, a, vs, rfl, by rw [C.K]; exact g1, by rw [← g2.length, ← hlen, hl], φ, ρ, st, xs, ρ', st', he, hst, g2, ev1, k⟩
    | none =>
      rw [et] at q1
      obtain ⟨a, vs, rfl, g1, g2⟩ := lstOf_rel hst q1 rv
      exact ⟨_, pg_unl C.calm h h1 h2, a, vs, rfl, by rw [C.K]; exact g1, by rw [← g2.length, ← hlen, hl], φ, ρ, st, xs, ρ', st', he, hst, g2, ev1, k⟩
theorem setIdx_rule (C : CtxOk g X c bl fl) {o i v : Val} {u : Unit} {st st' : Store} (h : setIdx o i v st = .ok u st') :
    ∃ r, PSet X r ∧ ∀ (φ : Fm) (H : Hp) (x y z : V) (Q : Hp → Prop), RelSt g φ st H → Rel g φ H o x → Rel g φ H i y → Rel g φ H v z → (∀ H', Step φ φ H H' → RelSt g φ st' H' → Q H') → r x y z H Q := by
  have hu := C.hu
  unfold setIdx at h
  cases o <;> first | exact (bad_ok (st := st) h).elim | skip
  rename_i a
  obtain ⟨ob, st1, e1, h⟩ := bind_ok h
  obtain ⟨q1, rfl⟩ := look_ok e1
  cases ob with
  | lst xs =>
    cases i <;> first | exact (bad_ok (st := st) h).elim | skip
    rename_i k
    obtain ⟨j, st2, e2, h⟩ := bind_ok h
    obtain ⟨q2, rfl⟩ := lift_ok e2
    have h : Res.ok () (st.set a (.lst (xs.set j v))) = .ok u st' := h
    cases h
    refine ⟨_, set_list, fun φ H x y z Q hs rx ry rz kk => ?_⟩
    obtain ⟨p, vs, rfl, hp, h1, h2⟩ := ref_lst hs q1 rx
    simp only [Rel] at ry
    subst ry
    have s : Step φ φ H (upd H p (.lst (vs.set j z))) := Step.put (List.mem_of_getElem? hp)
    exact ⟨p, vs, _, j, rfl, rfl, h1, by rw [← h2.length]; exact q2, kk _ s (hs.put hp ⟨_, upd_same, RelL.mono s _ _ (h2.set j rz)⟩)⟩
  | dct kvs =>
    obtain ⟨_, st2, e2, h⟩ := bind_ok h
    obtain ⟨q2, rfl⟩ := guard_ok e2
    have h : Res.ok () (st.set a (.dct (putKv kvs i v))) = .ok u st' := h
    cases h
    rw [Bool.and_eq_true, decide_eq_true_eq] at q2
    refine ⟨_, set_dict (by omega), fun φ H x y z Q hs rx ry rz kk => ?_⟩
    simp only [Rel] at rx
    obtain ⟨p, rfl, hp⟩ := rx
    obtain ⟨ws, h1, h2⟩ := hs.at_ a p _ hp q1
    obtain ⟨k', hk, rfl⟩ := key_rel q2.1 ry
    have s : Step φ φ H (upd H p (.dK (putK ws k' z))) := Step.put (List.mem_of_getElem? hp)
    exact ⟨p, _, rfl, DPut.k h1 (by rw [← h2.length]; exact q2.2), kk _ s (hs.put hp ⟨_, upd_same, RelD.mono s _ _ (h2.put hk rz)⟩)⟩
  | ins _ _ => exact (bad_ok (st := st) h).elim
theorem ra_idx (C : CtxOk g X c bl fl) {o i : Expr} {mo mi : Ex} {pos : Pos} (ho : PE X o (RdE g c mo)) (hi : PE X i (RdE g c mi)) (hp : notSlice i = true) : PG X (.Subscript o i pos) (RdA g c (.idx mo mi)) :=
  PG.of fun z σ H Q ⟨φ, ρ, st, v, ρ', st', he, hst, rv, ev, k⟩ => by
    have ev : (do let x ← evalE c mo ρ; let y ← evalE c mi ρ; setIdx x y v; pure ρ : M Env) st = .ok ρ' st' := ev
    obtain ⟨x, st1, e1, ev⟩ := bind_ok ev
    obtain ⟨y, st2, e2, ev⟩ := bind_ok ev
    obtain ⟨_, st3, e3, ev⟩ := bind_ok ev
    obtain ⟨rfl, rfl⟩ := pure_ok ev
    obtain ⟨r, hr, hq⟩ := setIdx_rule C e3
    refine ⟨_, pg_sub ho hi hr (by cases i <;> first | (intro _; rfl) | cases hp), seq2 he hst e1 e2 fun φ2 H2 x' y' s2 hs2 he2 rx ry => ?_⟩
    exact hq φ2 H2 x' y' z _ hs2 rx ry (Rel.mono s2 _ _ rv) fun H' s' hs' => k φ2 H' σ (s2.trans s') hs' (he2.mono s')

/-! ### target = value -/
theorem rs_set (C : CtxOk g X c bl fl) {i : Nat} {x : Str} {e : Expr} {m : Ex} {pos pos' : Pos} (hi : X.N[i]? = some x) (hs : stB X x = true) (he : PE X e (RdE g c m)) (hsw : swapsWith e (some (.Name x pos')) pos.line X.env = pure false) : PS X (.Assign [.Name x pos'] e pos) (RdS g c (.asg (.nm i) m)) :=
  PS.of fun D σ H ⟨φ, ρ, st, fl, st', hre, hst, ev, k⟩ => by
    have ev : (do let v ← evalE c m ρ; let ρ' ← assignT c (.nm i) v ρ; pure (.nxt ρ') : M Flow) st = .ok fl st' := ev
    obtain ⟨v, st1, e1, ev⟩ := bind_ok ev
    obtain ⟨ρ', st2, e2, ev⟩ := bind_ok ev
    obtain ⟨rfl, rfl⟩ := pure_ok e2
    obtain ⟨rfl, rfl⟩ := pure_ok ev
    exact ⟨_, ps_set C.nd hi (stB_ok hs).1 he hsw (stB_ok hs).2, seq1 hre hst e1 fun φ1 H1 x' s1 hs1 he1 r1 => k φ1 H1 _ s1 hs1 (he1.set r1 i)⟩
theorem rs_asg {t : Tgt} {tg e : Expr} {m : Ex} {pos : Pos} (he : PE X e (RdE g c m)) (hg : PG X tg (RdA g c t)) (hn : isName tg = false) (hst : notStar tg = true) (hw : swappedStores [tg] e X.env = pure none) : PS X (.Assign [tg] e pos) (RdS g c (.asg t m)) :=
  PS.of fun D σ H ⟨φ, ρ, st, fl, st', hre, hs, ev, k⟩ => by
    have ev : (do let v ← evalE c m ρ; let ρ' ← assignT c t v ρ; pure (.nxt ρ') : M Flow) st = .ok fl st' := ev
    obtain ⟨v, st1, e1, ev⟩ := bind_ok ev
    obtain ⟨ρ', st2, e2, ev⟩ := bind_ok ev
    obtain ⟨rfl, rfl⟩ := pure_ok ev
    refine ⟨_, ps_asg he hg (sw_sole hn _ _) hw (by rw [assign_each hst]; rfl), seq1 hre hs e1 fun φ1 H1 x' s1 hs1 he1 r1 => ?_⟩
    exact ⟨φ1, ρ, st1, v, ρ', st2, he1, hs1, r1, e2, fun φ2 H2 σ2 s2 hs2 he2 => k φ2 H2 σ2 (s1.trans s2) hs2 he2⟩
/-- name = [..] on one line -/
theorem rs_setLc (C : CtxOk g X c bl fl) {i : Nat} {y : Str} {py : Pos} {cell : Bool} {elt tg iter : Expr} {ifs : List Expr} {scope : Scope} {pos spos : Pos} {m : Ex} {t : Tg} {it : It} {ms : List Ex} (hy : X.N[i]? = some y) (hyl : X.env.scope.names.lookup y = some .local)
    (hsw : swapsWith (.ListComp elt [⟨tg, iter, ifs, 0⟩] scope pos) (some (.Name y py)) spos.line X.env = pure true) (hi : PI X tg iter (RdI g c it)) (hk : blkC X.N X.env.scope scope (ownOf X.N (tgSlots t)) = true) (hn : notSet iter = true)
    (hg : Blk X scope fun Y => PG Y tg (RdG g t)) (ht : Blk X scope fun Y => PTs Y ifs (RdTs g c ms)) (he : Blk X scope fun Y => PE Y elt (RdE g c m)) : PS X (.Assign [.Name y py] (.ListComp elt [⟨tg, iter, ifs, 0⟩] scope pos) spos) (RdS g c (.asg (.nm i) (.comp cell m t it ms))) :=
  PS.of fun D σ H ⟨φ, ρ, st, fl, st', hre, hst, ev, k⟩ => by
    have ev : (do let v ← evalE c (.comp cell m t it ms) ρ; let ρ' ← assignT c (.nm i) v ρ; pure (.nxt ρ') : M Flow) st = .ok fl st' := ev
    obtain ⟨v, st1, e1, ev⟩ := bind_ok ev
    obtain ⟨ρ', st2, e2, ev⟩ := bind_ok ev
    obtain ⟨rfl, rfl⟩ := pure_ok e2
    obtain ⟨rfl, rfl⟩ := pure_ok ev
    refine ⟨_, ps_setLc C.calm C.nd hy hyl hsw hi (blkOk_by hk) hg ht he (folded hn X.env), ?_⟩
    rw [ownOf_2]
    exact lc_run C (Q := fun x H1 => gName i x σ H1 D.nx) hre hst e1 fun φ1 H1 x' s1 hs1 r1 => k φ1 H1 _ s1 hs1 ((hre.mono s1).set r1 i)
theorem rs_setLc2 (C : CtxOk g X c bl fl) {i : Nat} {y : Str} {py : Pos} {cell : Bool} {elt tg iter tg1 iter1 : Expr} {ifs ifs1 : List Expr} {scope : Scope} {pos spos : Pos} {m : Ex} {t t1 : Tg} {it it1 : It} {ms ms1 : List Ex} (hy : X.N[i]? = some y) (hyl : X.env.scope.names.lookup y = some .local)
    (hsw : swapsWith (.ListComp elt [⟨tg, iter, ifs, 0⟩, ⟨tg1, iter1, ifs1, 0⟩] scope pos) (some (.Name y py)) spos.line X.env = pure true) (hi : PI X tg iter (RdI g c it)) (hk : blkC X.N X.env.scope scope (ownOf X.N (tgSlots t ++ tgSlots t1)) = true) (hn : notSet iter = true) (hn1 : notSet iter1 = true)
    (hg : Blk X scope fun Y => PG Y tg (RdG g t)) (ht : Blk X scope fun Y => PTs Y ifs (RdTs g c ms)) (hi1 : Blk X scope fun Y => PI Y tg1 iter1 (RdI g c it1)) (hg1 : Blk X scope fun Y => PG Y tg1 (RdG g t1)) (ht1 : Blk X scope fun Y => PTs Y ifs1 (RdTs g c ms1)) (he : Blk X scope fun Y => PE Y elt (RdE g c m)) :
    PS X (.Assign [.Name y py] (.ListComp elt [⟨tg, iter, ifs, 0⟩, ⟨tg1, iter1, ifs1, 0⟩] scope pos) spos) (RdS g c (.asg (.nm i) (.comp2 cell m t it ms t1 it1 ms1))) :=
  PS.of fun D σ H ⟨φ, ρ, st, fl, st', hre, hst, ev, k⟩ => by
    have ev : (do let v ← evalE c (.comp2 cell m t it ms t1 it1 ms1) ρ; let ρ' ← assignT c (.nm i) v ρ; pure (.nxt ρ') : M Flow) st = .ok fl st' := ev
    obtain ⟨v, st1, e1, ev⟩ := bind_ok ev
    obtain ⟨ρ', st2, e2, ev⟩ := bind_ok ev
    obtain ⟨rfl, rfl⟩ := pure_ok e2
    obtain ⟨rfl, rfl⟩ := pure_ok ev
    refine ⟨_, ps_setLc2 (vs1 := tgSlots t1) C.calm C.nd hy hyl hsw hi (blkOk_by hk) (fun i h => by rw [ownOf_2]; exact List.mem_append_right _ h) hg ht hi1 hg1 ht1 he (folded hn X.env) (folded hn1), ?_⟩
    rw [ownOf_2]
    exact lc2_run C (Q := fun x H1 => gName i x σ H1 D.nx) hre hst e1 fun φ1 H1 x' s1 hs1 r1 => k φ1 H1 _ s1 hs1 ((hre.mono s1).set r1 i)
/-- a, b = x, y -/
theorem rs_par (C : CtxOk g X c bl fl) {i j : Nat} {x y : Str} {a b : Expr} {m n : Ex} {px py pt pos pt2 : Pos} {kt k2 : Nat} (hi : X.N[i]? = some x) (hj : X.N[j]? = some y) (hij : i ≠ j) (hx : X.env.scope.names.lookup x = some .local) (hy : X.env.scope.names.lookup y = some .local)
    (ha : PA X [a, b] (RdL g c [m, n])) (hw : swappedStores [.Tuple [.Name x px, .Name y py] kt pt] (.Tuple [a, b] k2 pt2) X.env = pure (some [x, y])) :
    PS X (.Assign [.Tuple [.Name x px, .Name y py] kt pt] (.Tuple [a, b] k2 pt2) pos) (RdS g c (.asg (.tup [.nm i, .nm j]) (.tup [m, n]))) :=
  PS.of fun D σ H ⟨φ, ρ, st, fl, st', hre, hst, ev, k⟩ => by
    have ev : (do let v ← evalE c (.tup [m, n]) ρ; let ρ' ← assignT c (.tup [.nm i, .nm j]) v ρ; pure (.nxt ρ') : M Flow) st = .ok fl st' := ev
    obtain ⟨v, st1, e1, ev⟩ := bind_ok ev
    obtain ⟨ρ', st2, e2, ev⟩ := bind_ok ev
    obtain ⟨rfl, rfl⟩ := pure_ok ev
    have e1 : (do let vs ← evalL c [m, n] ρ; lenOk vs.length; pure (.tup vs) : M Val) st = .ok v st1 := e1
    obtain ⟨vs, st3, e3, e1⟩ := bind_ok e1
    obtain ⟨_, st4, e4, e1⟩ := bind_ok e1
    obtain ⟨_, rfl⟩ := lenOk_ok e4
    obtain ⟨rfl, rfl⟩ := pure_ok e1
    obtain ⟨u, w, rfl⟩ := evalL2 e3
    have e2 : Res.ok ((ρ.set i (some u)).set j (some w)) st3 = .ok ρ' st2 := e2
    cases e2
    refine ⟨_, ps_par C.calm C.nd hi hj hij hx hy ha hw, seqL hre hst e3 fun φ1 H1 xs s1 hs1 he1 r1 => ?_⟩
    obtain ⟨x', y', rfl, rx, ry⟩ := r1.two_of
    exact ⟨x', y', rfl, k φ1 H1 _ s1 hs1 ((he1.set rx i).set ry j)⟩
theorem rs_par3 (C : CtxOk g X c bl fl) {i j l : Nat} {x y z : Str} {a b d : Expr} {m n o : Ex} {px py pz pt pos pt2 : Pos} {kt k2 : Nat} (hi : X.N[i]? = some x) (hj : X.N[j]? = some y) (hl : X.N[l]? = some z) (hij : i ≠ j) (hil : i ≠ l) (hjl : j ≠ l) (hx : X.env.scope.names.lookup x = some .local) (hy : X.env.scope.names.lookup y = some .local) (hz : X.env.scope.names.lookup z = some .local)
    (ha : PA X [a, b, d] (RdL g c [m, n, o])) (hw : swappedStores [.Tuple [.Name x px, .Name y py, .Name z pz] kt pt] (.Tuple [a, b, d] k2 pt2) X.env = pure (some [x, y, z])) :
    PS X (.Assign [.Tuple [.Name x px, .Name y py, .Name z pz] kt pt] (.Tuple [a, b, d] k2 pt2) pos) (RdS g c (.asg (.tup [.nm i, .nm j, .nm l]) (.tup [m, n, o]))) :=
  PS.of fun D σ H ⟨φ, ρ, st, fl, st', hre, hst, ev, k⟩ => by
    have ev : (do let v ← evalE c (.tup [m, n, o]) ρ; let ρ' ← assignT c (.tup [.nm i, .nm j, .nm l]) v ρ; pure (.nxt ρ') : M Flow) st = .ok fl st' := ev
    obtain ⟨v, st1, e1, ev⟩ := bind_ok ev
    obtain ⟨ρ', st2, e2, ev⟩ := bind_ok ev
    obtain ⟨rfl, rfl⟩ := pure_ok ev
    have e1 : (do let vs ← evalL c [m, n, o] ρ; lenOk vs.length; pure (.tup vs) : M Val) st = .ok v st1 := e1
    obtain ⟨vs, st3, e3, e1⟩ := bind_ok e1
    obtain ⟨_, st4, e4, e1⟩ := bind_ok e1
    obtain ⟨_, rfl⟩ := lenOk_ok e4
    obtain ⟨rfl, rfl⟩ := pure_ok e1
    obtain ⟨u, w, t, rfl⟩ := evalL3 e3
    have e2 : Res.ok (((ρ.set i (some u)).set j (some w)).set l (some t)) st3 = .ok ρ' st2 := e2
    cases e2
    refine ⟨_, ps_par3 C.calm C.nd hi hj hl hij hil hjl hx hy hz ha hw, seqL hre hst e3 fun φ1 H1 xs s1 hs1 he1 r1 => ?_⟩
    obtain ⟨x', y', z', rfl, rx, ry, rz⟩ := r1.three_of
    exact ⟨x', y', z', rfl, k φ1 H1 _ s1 hs1 (((he1.set rx i).set ry j).set rz l)⟩
/-- o.f = e -/
theorem setFld_rule (C : CtxOk g X c bl fl) {f : Str} (hf : f ∈ fl) {o v : Val} {u : Unit} {st st' : Store} (h : setFld o f v st = .ok u st') {φ : Fm} {H : Hp} {x y : V} (hs : RelSt g φ st H) (rx : Rel g φ H o x) (ry : Rel g φ H v y) :
    ∃ a A dx ws, x = .ref a ∧ H a = some (.ins A dx ws) ∧ Cls X.K A ∧ NoAttr X.K A f ∧ ws.length < 1000 ∧ Step φ φ H (upd H a (.ins A dx (putF f y ws))) ∧ RelSt g φ st' (upd H a (.ins A dx (putF f y ws))) := by
  have h : (do let r ← look (fun st => insOf st o); guardM (decide (r.2.2.length < 1000)); write r.1 (.ins r.2.1 (putFv f v r.2.2)) : M Unit) st = .ok u st' := h
  obtain ⟨r, st1, e1, h⟩ := bind_ok h
  obtain ⟨_, st2, e2, h⟩ := bind_ok h
  obtain ⟨q1, rfl⟩ := look_ok e1
  obtain ⟨q2, rfl⟩ := guard_ok e2
  rw [decide_eq_true_eq] at q2
  have h : Res.ok () (st.set r.1 (.ins r.2.1 (putFv f v r.2.2))) = .ok u st' := h
  cases h
  obtain ⟨_, _, a, A, dx, ws, rfl, ha, hc, hH, rf⟩ := insOf_rel hs q1 rx
  obtain ⟨hc1, hc2⟩ := C.fld _ A f hc hf
  have s : Step φ φ H (upd H a (.ins A dx (putF f y ws))) := Step.put (List.mem_of_getElem? ha)
  exact ⟨a, A, dx, ws, rfl, hH, hc1, hc2, by rw [← rf.length]; exact q2, s, hs.put ha ⟨A, dx, _, hc, upd_same, RelF.mono s _ _ (rf.put f ry)⟩⟩
theorem rs_fld (C : CtxOk g X c bl fl) {o e : Expr} {f : Str} {mo m : Ex} {pos pos' : Pos} (ho : PE X o (RdE g c mo)) (he : PE X e (RdE g c m)) (hf : f ∈ fl) : PS X (.Assign [.Attribute o f pos'] e pos) (RdS g c (.asg (.fld mo f) m)) :=
  PS.of fun D σ H ⟨φ, ρ, st, fl', st', hre, hst, ev, k⟩ => by
    have ev : (do let v ← evalE c m ρ; let ρ' ← assignT c (.fld mo f) v ρ; pure (.nxt ρ') : M Flow) st = .ok fl' st' := ev
    obtain ⟨v, st1, e1, ev⟩ := bind_ok ev
    obtain ⟨ρ', st2, e2, ev⟩ := bind_ok ev
    obtain ⟨rfl, rfl⟩ := pure_ok ev
    have e2 : (do let x ← evalE c mo ρ; setFld x f v; pure ρ : M Env) st1 = .ok ρ' st2 := e2
    obtain ⟨x, st3, e3, e2⟩ := bind_ok e2
    obtain ⟨_, st4, e4, e2⟩ := bind_ok e2
    obtain ⟨rfl, rfl⟩ := pure_ok e2
    refine ⟨_, ps_fld ho he (sw_target rfl _ _), seq2 hre hst e1 e3 fun φ2 H2 v' x' s2 hs2 he2 rv rx => ?_⟩
    obtain ⟨a, A, dx, ws, rfl, hH, h1, h2, h3, s, hs3⟩ := setFld_rule C hf e4 hs2 rx rv
    exact ⟨a, A, dx, ws, rfl, hH, h1, h2, h3, k φ2 _ σ (s2.trans s) hs3 (he2.mono s)⟩
end
end Mn

end

section
set_option maxHeartbeats 1000000
/-! Mn: augmented assignments, loops. -/
namespace Mn
open PySem PySem.Spec PyProof.Rows L2

section
variable {g : Gm} {c : Cf} {X : Cx} {bl fl : List Str}
/-! ### a op= b -/
theorem binInt_iop {o : Op} {i j r : Int} (h : binInt o i j = some r) : o ≠ .pow → ∃ C G, OpR X (inplaceOp (opOf o)) (rI C G) ∧ C i j ∧ G i j = .int r := by
  intro hp
  have tr : ∀ {f : Value → Value → Sem Value} {G : Int → Int → V}, OpR X f (rI0 G) → OpR X f (rI (fun _ _ => True) G) := fun ho pins s σ H x y v u Q I rx ry ⟨i, j, e1, e2, _, q⟩ => ho pins s σ H x y v u Q I rx ry ⟨i, j, e1, e2, q⟩
  cases o <;> simp only [binInt] at h
  case add => cases h; exact ⟨_, _, tr iop_add, trivial, rfl⟩
  case sub => cases h; exact ⟨_, _, tr iop_sub, trivial, rfl⟩
  case mul =>
    split at h
    · rename_i q
      cases h
      refine ⟨_, _, iop_mul, ?_, rfl⟩
      rw [Bool.or_eq_true] at q
      exact q.elim (fun z => .inl (small64_ok z)) fun z => .inr (small64_ok z)
    · cases h
  case fdiv =>
    split at h
    · rename_i q
      cases h
      exact ⟨_, _, iop_fdiv, (by simpa using q : 0 < j ∧ j < 1073741824), rfl⟩
    · cases h
  case mod =>
    split at h
    · rename_i q
      cases h
      exact ⟨_, _, iop_mod, q, rfl⟩
    · cases h
  case shl =>
    split at h
    · rename_i q
      cases h
      exact ⟨_, _, iop_shl, powOk_ok q, rfl⟩
    · cases h
  case shr =>
    split at h
    · rename_i q
      cases h
      exact ⟨_, _, iop_shr, q, rfl⟩
    · cases h
  case band => cases h; exact ⟨_, _, tr iop_and, trivial, rfl⟩
  case bor => cases h; exact ⟨_, _, tr iop_or, trivial, rfl⟩
  case pow => exact absurd rfl hp
theorem aug_rule {o : Op} (hp : o ≠ .pow) {a b v : Val} {st st' : Store} (h : augVal o a b st = .ok v st') :
    ∃ r, OpR X (inplaceOp (opOf o)) r ∧ ∀ (φ : Fm) (H : Hp) (x y : V) (Q : VK), RelSt g φ st H → Rel g φ H a x → Rel g φ H b y → Kont g φ H v st' Q → r x y H Q := by
  unfold augVal at h
  split at h
  · rename_i i j
    obtain ⟨e, rfl⟩ := lift_ok h
    obtain ⟨r, hr, rfl⟩ := Option.map_eq_some_iff.mp e
    obtain ⟨C, G, h1, h2, h3⟩ := binInt_iop (X := X) hr hp
    refine ⟨_, h1, fun φ H x y Q hs rx ry k => ?_⟩
    simp only [Rel] at rx ry
    subst rx ry
    exact ⟨i, j, rfl, rfl, h2, by rw [h3]; exact k.flat hs (by simp [Rel])⟩
  · rename_i x y
    obtain ⟨e, rfl⟩ := lift_ok h
    split at e
    · rename_i q
      cases e
      obtain ⟨rfl, hz⟩ := q
      refine ⟨_, iop_add_str, fun φ H x' y' Q hs rx ry k => ?_⟩
      simp only [Rel] at rx ry
      subst rx ry
      exact ⟨x, y, rfl, rfl, hz, k.flat hs (by simp [Rel])⟩
    · cases e
  · rename_i b i
    cases o <;> first | exact (bad_ok (st := st) h).elim | skip
    obtain ⟨xs, st1, e1, h⟩ := bind_ok h
    obtain ⟨ys, st2, e2, h⟩ := bind_ok h
    obtain ⟨_, st3, e3, h⟩ := bind_ok h
    obtain ⟨_, st4, e4, h⟩ := bind_ok h
    obtain ⟨rfl, rfl⟩ := pure_ok h
    obtain ⟨q1, rfl⟩ := look_ok e1
    obtain ⟨q2, rfl⟩ := look_ok e2
    obtain ⟨q3, rfl⟩ := lenOk_ok e3
    have e4 : Res.ok () (st.set i (.lst (xs ++ ys))) = .ok _ st4 := e4
    cases e4
    refine ⟨_, iop_ext, fun φ H x y Q hs rx ry k => ?_⟩
    have q1' : st[i]? = some (.lst xs) := by
      split at q1
      · rename_i zs q
        cases q1
        exact q
      · cases q1
    have rx0 := rx
    obtain ⟨a, us, rfl, ha, h1, h2⟩ := ref_lst hs q1' rx
    obtain ⟨b', ws, rfl, h3, h4⟩ := ownLst_rel hs q2 ry
    exact ⟨a, b', us, ws, rfl, rfl, h1, h3, by rw [← h2.length, ← h4.length]; exact q3, k.wr hs ha (h2.append h4) rx0⟩
  · exact (bad_ok (st := st) h).elim
theorem rs_augN (C : CtxOk g X c bl fl) {i : Nat} {x : Str} {e : Expr} {o : Op} {m : Ex} {pos pos' : Pos} (hi : X.N[i]? = some x) (hs : stB X x = true) (he : PE X e (RdE g c m)) (hp : o ≠ .pow) : PS X (.AugAssign (.Name x pos') (opOf o) e pos) (RdS g c (.aug (.nm i) o m)) :=
  PS.of fun D σ H ⟨φ, ρ, st, fl, st', hre, hst, ev, k⟩ => by
    have ev : (do let ρ' ← augT c (.nm i) o m ρ; pure (.nxt ρ') : M Flow) st = .ok fl st' := ev
    obtain ⟨ρ', st1, e1, ev⟩ := bind_ok ev
    obtain ⟨rfl, rfl⟩ := pure_ok ev
    have e1 : (do let x ← lift (getVar ρ i); let y ← evalE c m ρ; let z ← augVal o x y; pure (ρ.set i (some z)) : M Env) st = .ok ρ' st1 := e1
    obtain ⟨xv, st2, e2, e1⟩ := bind_ok e1
    obtain ⟨yv, st3, e3, e1⟩ := bind_ok e1
    obtain ⟨zv, st4, e4, e1⟩ := bind_ok e1
    obtain ⟨rfl, rfl⟩ := pure_ok e1
    obtain ⟨q2, rfl⟩ := lift_ok e2
    obtain ⟨r, hr, hq⟩ := aug_rule (X := X) (g := g) hp e4
    obtain ⟨xx, h1, h2⟩ := hre.get q2
    refine ⟨_, ps_aug C.nd hi (stB_ok hs).1 he hr (stB_ok hs).2, xx, h1, seq1 hre hst e3 fun φ1 H1 y' s1 hs1 he1 r1 => ?_⟩
    exact hq φ1 H1 xx y' _ hs1 (Rel.mono s1 _ _ h2) r1 fun φ2 H2 z' s2 hs2 r2 => k φ2 H2 _ (s1.trans s2) hs2 ((he1.mono s2).set r2 i)
theorem rs_augF (C : CtxOk g X c bl fl) {e ob : Expr} {f : Str} {o : Op} {m mo : Ex} {pos pos' : Pos} (ho : PE X ob (RdE g c mo)) (he : PE X e (RdE g c m)) (hf : f ∈ fl) (hp : o ≠ .pow) : PS X (.AugAssign (.Attribute ob f pos') (opOf o) e pos) (RdS g c (.aug (.fld mo f) o m)) :=
  PS.of fun D σ H ⟨φ, ρ, st, fl', st', hre, hst, ev, k⟩ => by
    have ev : (do let ρ' ← augT c (.fld mo f) o m ρ; pure (.nxt ρ') : M Flow) st = .ok fl' st' := ev
    obtain ⟨ρ', st1, e1, ev⟩ := bind_ok ev
    obtain ⟨rfl, rfl⟩ := pure_ok ev
    have e1 : (do let p ← evalE c mo ρ; let r ← look (fun st => insOf st p); let x ← lift (getF r.2.2 f); let y ← evalE c m ρ; let z ← augVal o x y; let r2 ← look (fun st => insOf st p); guardM (decide (r2.2.1 = r.2.1)); setFld p f z; pure ρ : M Env) st = .ok ρ' st1 := e1
    obtain ⟨pv, st2, e2, e1⟩ := bind_ok e1
    obtain ⟨rr, st3, e3, e1⟩ := bind_ok e1
    obtain ⟨xv, st3', e3', e1⟩ := bind_ok e1
    obtain ⟨yv, st4, e4, e1⟩ := bind_ok e1
    obtain ⟨zv, st5, e5, e1⟩ := bind_ok e1
    obtain ⟨r2, st6, e6, e1⟩ := bind_ok e1
    obtain ⟨_, st7, e7, e1⟩ := bind_ok e1
    obtain ⟨_, st8, e8, e1⟩ := bind_ok e1
    obtain ⟨rfl, rfl⟩ := pure_ok e1
    obtain ⟨q3, rfl⟩ := look_ok e3
    obtain ⟨q3', rfl⟩ := lift_ok e3'
    obtain ⟨q6, rfl⟩ := look_ok e6
    obtain ⟨q7, rfl⟩ := guard_ok e7
    rw [decide_eq_true_eq] at q7
    obtain ⟨r, hr, hq⟩ := aug_rule (X := X) (g := g) hp e5
    refine ⟨_, ps_fldaug ho he hr, seq1 hre hst e2 fun φ1 H1 p' s1 hs1 he1 rp => ?_⟩
    obtain ⟨_, _, a, A, dx, ws, rfl, ha, hc, hH, rf⟩ := insOf_rel hs1 q3 rp
    obtain ⟨x', h1, h2⟩ := rf.get q3'
    obtain ⟨hc1, hc2⟩ := C.fld _ A f hc hf
    refine ⟨a, A, dx, ws, x', rfl, hH, hc1, hc2, h1, seq1 he1 hs1 e4 fun φ2 H2 y' s2 hs2 he2 r2' => ?_⟩
    refine hq φ2 H2 x' y' _ hs2 (Rel.mono s2 _ _ h2) r2' fun φ3 H3 z' s3 hs3 r3 => ?_
    have rp3 := Rel.mono (s2.trans s3) _ _ rp
    obtain ⟨_, _, a2, A2, dx2, ws2, ea2, ha2, hc2', hH2, rf2⟩ := insOf_rel hs3 q6 rp3
    cases ea2
    rw [q7, hc] at hc2'
    cases hc2'
    obtain ⟨a', A', dx', ws', ea, hH', h1', h2', h3', s4, hs4⟩ := setFld_rule C hf e8 hs3 rp3 r3
    cases ea
    rw [hH2] at hH'
    cases hH'
    exact ⟨dx2, ws2, hH2, h3', k φ3 _ σ ((s1.trans s2).trans (s3.trans s4)) hs4 ((he2.mono s3).mono s4)⟩
/-! ### o[i] op= e -/
theorem get_list : PGet X (rIxL X.K) := by
  intro pins s σ H x y v u Q I rx ry h
  obtain ⟨p, xs, i, z, rfl, rfl, hq, he, q⟩ := h
  cases rx
  obtain ⟨t, rfl⟩ := ry
  obtain ⟨its, r, pl, hz⟩ := I.list hq
  obtain ⟨j, h1, h2, h3, h4, h5⟩ := atI_get he
  obtain ⟨w, ew, rw'⟩ := r.get h2
  have hl := r.length
  have hn := line63
  have fin : EP X pins σ Q w s := ⟨z, H, I, rw', q⟩
  by_cases h0 : 0 ≤ i
  · have hj : i.toNat = j := by
      rw [seqIndex_of h0 h5] at h1
      exact Option.some.inj h1
    exact wpAny_getItem_list pl.isList h0 (by omega) (by rw [hj]; simpa using ew) fin
  · have hj : (i + (its.toArray.size : Int)).toNat = j := by
      rw [seqIndex_neg (by omega) h4] at h1
      rw [List.size_toArray, ← hl]
      exact Option.some.inj h1
    exact wpAny_getItem_list_neg pl.isList (by omega) (by rw [List.size_toArray] <;> omega) (by omega) (by rw [hj]; simpa using ew) fin
theorem get_dict (hu : X.A.units + 1 < cLine) : PGet X (fun x y H Q => ∃ a v, x = .ref a ∧ DGet H a y (some v) ∧ Q v H) := by
  intro pins s σ H x y v u Q I rx ry h
  obtain ⟨a, w, rfl, g, q⟩ := h
  cases rx
  exact d_getItem hu I g ry fun w' s' I' rw' => ⟨w, H, I', rw', q⟩
theorem cell_rule (C : CtxOk g X c bl fl) {o i v : Val} {st : Store} (h : cellAt o i st = some v) :
    ∃ r, PGet X r ∧ ∀ (φ : Fm) (H : Hp) (x y : V) (Q : VK), RelSt g φ st H → Rel g φ H o x → Rel g φ H i y → Kont g φ H v st Q → r x y H Q := by
  have hu := C.hu
  unfold cellAt at h
  cases o <;> first | (cases h; done) | skip
  dsimp only at h
  split at h
  · rename_i xs q
    cases i <;> first | (cases h; done) | skip
    dsimp only at h
    refine ⟨_, get_list, fun φ H x y Q hs rx ry k => ?_⟩
    obtain ⟨a, us, rfl, ha, h1, h2⟩ := ref_lst hs q rx
    obtain ⟨z, h3, h4⟩ := h2.atI h
    simp only [Rel] at ry
    exact ⟨a, us, _, z, rfl, ry, SqL.of h1, h3, k.flat hs h4⟩
  · rename_i kvs q
    split at h
    · rename_i hk
      refine ⟨_, get_dict (by omega), fun φ H x y Q hs rx ry k => ?_⟩
      simp only [Rel] at rx
      obtain ⟨a, rfl, ha⟩ := rx
      obtain ⟨ws, h1, h2⟩ := hs.at_ _ a _ ha q
      obtain ⟨kk, hkv, rfl⟩ := key_rel hk ry
      obtain ⟨y', h3, h4⟩ := (h2.get hkv).1 v h
      exact ⟨a, y', rfl, by rw [← h3]; exact DGet.k h1, k.flat hs h4⟩
    · cases h
  · cases h
theorem rs_augI (C : CtxOk g X c bl fl) {e ob i : Expr} {o : Op} {m mo mi : Ex} {pos pos' : Pos} (ho : PE X ob (RdE g c mo)) (hi : PE X i (RdE g c mi)) (he : PE X e (RdE g c m)) (hsl : notSlice i = true) (hp : o ≠ .pow) : PS X (.AugAssign (.Subscript ob i pos') (opOf o) e pos) (RdS g c (.aug (.idx mo mi) o m)) :=
  PS.of fun D σ H ⟨φ, ρ, st, fl', st', hre, hst, ev, k⟩ => by
    have ev : (do let ρ' ← augT c (.idx mo mi) o m ρ; pure (.nxt ρ') : M Flow) st = .ok fl' st' := ev
    obtain ⟨ρ', st1, e1, ev⟩ := bind_ok ev
    obtain ⟨rfl, rfl⟩ := pure_ok ev
    have e1 : (do let p ← evalE c mo ρ; let k ← evalE c mi ρ; let x ← look (cellAt p k); let y ← evalE c m ρ; let z ← augVal o x y; setIdx p k z; pure ρ : M Env) st = .ok ρ' st1 := e1
    obtain ⟨pv, st2, e2, e1⟩ := bind_ok e1
    obtain ⟨kv, st3, e3, e1⟩ := bind_ok e1
    obtain ⟨xv, st4, e4, e1⟩ := bind_ok e1
    obtain ⟨yv, st5, e5, e1⟩ := bind_ok e1
    obtain ⟨zv, st6, e6, e1⟩ := bind_ok e1
    obtain ⟨_, st7, e7, e1⟩ := bind_ok e1
    obtain ⟨rfl, rfl⟩ := pure_ok e1
    obtain ⟨q4, rfl⟩ := look_ok e4
    obtain ⟨r, hr, hq⟩ := aug_rule (X := X) (g := g) hp e6
    obtain ⟨rg, hrg, hqg⟩ := cell_rule C q4
    obtain ⟨rt, hrt, hqt⟩ := setIdx_rule C e7
    refine ⟨_, ps_augS ho hi hrg he hr hrt (by cases i <;> first | (intro _ _ _; rfl) | cases hsl), seq2 hre hst e2 e3 fun φ2 H2 p' k' s2 hs2 he2 rp rk => ?_⟩
    refine hqg φ2 H2 p' k' _ hs2 rp rk fun φ3 H3 x' s3 hs3 rx => ?_
    refine seq1 (he2.mono s3) hs3 e5 fun φ4 H4 y' s4 hs4 he4 ry => ?_
    refine hq φ4 H4 x' y' _ hs4 (Rel.mono s4 _ _ rx) ry fun φ5 H5 z' s5 hs5 rz => ?_
    refine hqt φ5 H5 p' k' z' _ hs5 (Rel.mono (s3.trans (s4.trans s5)) _ _ rp) (Rel.mono (s3.trans (s4.trans s5)) _ _ rk) rz fun H6 s6 hs6 => ?_
    exact k φ5 H6 σ ((s2.trans s3).trans ((s4.trans s5).trans s6)) hs6 ((he4.mono s5).mono s6)

/-! ### loops -/
theorem rs_for (C : CtxOk g X c bl fl) (hpass : PassesOwn (model X.prog X.w) X.A X.env X.xe) {tg iter : Expr} {body : List Stmt} {t : Tg} {it : It} {b : List Sm} {pos : Pos} (hi : PI X tg iter (RdI g c it)) (hg : PG X tg (RdG g t)) (hb : PSs X body (RdB g c b)) (hn : notSet iter = true) :
    PS X (.For tg iter body [] pos) (RdS g c (.for_ t it b)) :=
  PS.of fun D σ H ⟨φ, ρ, st, fl, st', hre, hst, ev, k⟩ => by
    have ev : (do let w ← evalI c it ρ; forLoop w t (execB c b) w.items ρ : M Flow) st = .ok fl st' := ev
    obtain ⟨w, st1, e1, e2⟩ := bind_ok ev
    refine ⟨_, ps_for hpass C.calm hi hg hb (folded hn X.env), φ, ρ, st, w, st1, hre, hst, e1, fun φ1 H1 J s1 hs1 hJ => ?_⟩
    have k1 := k.after s1
    let P : Nat → L2.St → Hp → Prop := fun i σi Hi => ∃ φi ρi sti, Step φ1 φi H1 Hi ∧ RelSt g φi sti Hi ∧ RelEnv g φi Hi ρi σi ∧ forLoop w t (execB c b) (w.items.drop i) ρi sti = .ok fl st'
    refine ⟨fun i m σi Hi => m = w.items.length - i ∧ i ≤ w.items.length ∧ P i σi Hi, ⟨w.items.length, by simp, Nat.zero_le _, φ1, ρ, st1, Step.refl _ _, hs1, hre.mono s1, e2⟩, ?_⟩
    rintro i m σi Hi ⟨rfl, hile, φi, ρi, sti, si, hsi, hei, e4⟩
    by_cases hlt : i < w.items.length
    · have hd : w.items.drop i = w.items[i] :: w.items.drop (i + 1) := List.drop_eq_getElem_cons hlt
      rw [hd] at e4
      have e4 : (do
        stillM w
        let ρ' ← lift (bindTg t w.items[i] ρi)
        let f ← execB c b ρ'
        (match f with
        | .nxt ρ => forLoop w t (execB c b) (w.items.drop (i + 1)) ρ
        | .cnt ρ => forLoop w t (execB c b) (w.items.drop (i + 1)) ρ
        | .brk ρ => pure (.nxt ρ)
        | .ret v => pure (.ret v)) : M Flow) sti = .ok fl st' := e4
      obtain ⟨_, sti', f1, e4⟩ := bind_ok e4
      obtain ⟨q1, rfl⟩ := still_ok f1
      obtain ⟨ρ', sti', f2, e4⟩ := bind_ok e4
      obtain ⟨q2, rfl⟩ := lift_ok f2
      obtain ⟨f, sti', f3, e6⟩ := bind_ok e4
      obtain ⟨_, hyld⟩ := hJ φi Hi sti si.kp hsi q1
      obtain ⟨hgo, hy⟩ := hyld i w.items[i] (by simp [hlt])
      refine .inr ⟨hgo, fun σ' H' => P (i + 1) σ' H', fun σ' H' hP => ⟨w.items.length - (i + 1), by omega, rfl, hlt, hP⟩, fun x H' hx => ?_⟩
      obtain ⟨rfl, rx⟩ := hy x H' hx
      refine ⟨φi, _, _, ρ', hei, rx, q2, fun σ2 he2 _ => ⟨φi, ρ', sti, f, sti', he2, hsi, f3, ?_⟩⟩
      cases f with
      | nxt ρ2 => exact fun φ3 H3 σ3 s3 hs3 he3 => ⟨φ3, ρ2, sti', si.trans s3, hs3, he3, e6⟩
      | cnt ρ2 => exact fun φ3 H3 σ3 s3 hs3 he3 => ⟨φ3, ρ2, sti', si.trans s3, hs3, he3, e6⟩
      | brk ρ2 =>
        obtain ⟨rfl, rfl⟩ := pure_ok e6
        exact fun φ3 H3 σ3 s3 hs3 he3 => k1 φ3 H3 σ3 (si.trans s3) hs3 he3
      | ret v2 =>
        obtain ⟨rfl, rfl⟩ := pure_ok e6
        exact fun φ3 H3 x3 s3 hs3 he3 => k1 φ3 H3 x3 (si.trans s3) hs3 he3
    · have e : i = w.items.length := by omega
      subst e
      rw [List.drop_length] at e4
      have e4 : (do stillM w; pure (.nxt ρi) : M Flow) sti = .ok fl st' := e4
      obtain ⟨_, sti', f1, e4⟩ := bind_ok e4
      obtain ⟨q1, rfl⟩ := still_ok f1
      obtain ⟨rfl, rfl⟩ := pure_ok e4
      exact .inl ⟨(hJ φi Hi sti si.kp hsi q1).1, k1 φi Hi σi si hsi hei⟩
theorem rs_while (C : CtxOk g X c bl fl) (hpass : PassesOwn (model X.prog X.w) X.A X.env X.xe) {e : Expr} {body : List Stmt} {m : Ex} {b : List Sm} {pos : Pos} (hc : PT X e (RdT g c m)) (hb : PSs X body (RdB g c b)) :
    PS X (.While e body [] pos) (RdS g c (.while_ m b)) :=
  PS.of fun D σ H ⟨φ, ρ, st, fl, st', hre, hst, ev, k⟩ => by
    have ev : whileLoop (testE c m) (execB c b) manyTurns ρ st = .ok fl st' := ev
    let P : Nat → L2.St → Hp → Prop := fun n σi Hi => ∃ φi ρi sti, Step φ φi H Hi ∧ RelSt g φi sti Hi ∧ RelEnv g φi Hi ρi σi ∧ whileLoop (testE c m) (execB c b) n ρi sti = .ok fl st'
    refine ⟨_, ps_while hpass hc hb, P, ⟨manyTurns, φ, ρ, st, Step.refl _ _, hst, hre, ev⟩, ?_⟩
    rintro n σi Hi ⟨φi, ρi, sti, si, hsi, hei, e4⟩
    cases n with
    | zero => exact (bad_ok (st := sti) e4).elim
    | succ n =>
      have e4 : (do
        let b1 ← testE c m ρi
        (match b1 with
        | true => do
          let f ← execB c b ρi
          (match f with
          | .nxt ρ => whileLoop (testE c m) (execB c b) n ρ
          | .cnt ρ => whileLoop (testE c m) (execB c b) n ρ
          | .brk ρ => pure (.nxt ρ)
          | .ret v => pure (.ret v))
        | false => pure (.nxt ρi)) : M Flow) sti = .ok fl st' := e4
      obtain ⟨b1, sti', f1, e5⟩ := bind_ok e4
      refine ⟨φi, ρi, sti, b1, sti', hei, hsi, f1, fun φ2 H2 b' s2 hs2 eb => ?_⟩
      have eb : b' = b1 := eb
      subst eb
      cases b' with
      | false =>
        obtain ⟨rfl, rfl⟩ := pure_ok e5
        exact k φ2 H2 σi (si.trans s2) hs2 (hei.mono s2)
      | true =>
        obtain ⟨f, sti2, f3, e6⟩ := bind_ok e5
        refine ⟨fun σ' H' => P n σ' H', fun σ' H' hP => ⟨n, Nat.lt_succ_self _, hP⟩, φ2, ρi, sti', f, sti2, hei.mono s2, hs2, f3, ?_⟩
        cases f with
        | nxt ρ2 => exact fun φ3 H3 σ3 s3 hs3 he3 => ⟨φ3, ρ2, sti2, (si.trans s2).trans s3, hs3, he3, e6⟩
        | cnt ρ2 => exact fun φ3 H3 σ3 s3 hs3 he3 => ⟨φ3, ρ2, sti2, (si.trans s2).trans s3, hs3, he3, e6⟩
        | brk ρ2 =>
          obtain ⟨rfl, rfl⟩ := pure_ok e6
          exact fun φ3 H3 σ3 s3 hs3 he3 => k φ3 H3 σ3 ((si.trans s2).trans s3) hs3 he3
        | ret v2 =>
          obtain ⟨rfl, rfl⟩ := pure_ok e6
          exact fun φ3 H3 x3 s3 hs3 he3 => k φ3 H3 x3 ((si.trans s2).trans s3) hs3 he3
end
end Mn

end

section
set_option maxHeartbeats 1000000
/-! Mn: defs. -/
namespace Mn
open PySem PySem.Spec PyProof.Rows L2

/-! ### what stays at a def's end -/
structure Cut0 (k : Nat) (φ φ' : Fm) : Prop where
  pre : φ.cells <+: φ'.cells
  hid : φ'.hid = φ.hid
  len : φ.cells.length = k
section
variable {g : Gm} {φ φ' : Fm} {H : Hp} {k : Nat}
theorem Cut0.out (c : Cut0 k φ φ') {a : Addr} (h : a ∉ φ') : a ∉ φ := fun m => h (m.elim (fun m => .inl (c.pre.subset m)) fun m => .inr (by rw [c.hid]; exact m))
theorem Cut0.get (c : Cut0 k φ φ') {i : Nat} {a : Addr} (hi : i < k) (h : φ'.cells[i]? = some a) : φ.cells[i]? = some a := by
  obtain ⟨t, e⟩ := c.pre
  rw [← e, List.getElem?_append_left (by rw [c.len]; exact hi)] at h
  exact h
mutual
theorem old_rel (c : Cut0 k φ φ') : ∀ (v : Val) (x : V), old k v = true → Rel g φ' H v x → Rel g φ H v x
  | .non, x, _, h => by simpa [Rel] using h
  | .bl b, x, _, h => by simpa [Rel] using h
  | .int i, x, _, h => by simpa [Rel] using h
  | .str z, x, _, h => by simpa [Rel] using h
  | .tup xs, x, o, h => by
    simp only [Rel] at h ⊢
    simp only [old] at o
    obtain ⟨a, vs, e, n, ha, r⟩ := h
    exact ⟨a, vs, e, c.out n, ha, oldL_rel c xs vs o r⟩
  | .lst xs, x, o, h => by
    simp only [Rel] at h ⊢
    simp only [old] at o
    obtain ⟨a, vs, e, n, ha, r⟩ := h
    exact ⟨a, vs, e, c.out n, ha, oldL_rel c xs vs o r⟩
  | .dct xs, x, o, h => by
    simp only [Rel] at h ⊢
    simp only [old] at o
    obtain ⟨a, vs, e, n, ha, r⟩ := h
    exact ⟨a, vs, e, c.out n, ha, oldD_rel c xs vs o r⟩
  | .ktup xs, x, o, h => by
    simp only [Rel] at h ⊢
    simp only [old] at o
    obtain ⟨a, vs, e, hk, r⟩ := h
    exact ⟨a, vs, e, hk, oldL_rel c xs vs o r⟩
  | .klst xs, x, o, h => by
    simp only [Rel] at h ⊢
    simp only [old] at o
    obtain ⟨a, vs, e, hk, r⟩ := h
    refine ⟨a, vs, e, ?_, oldL_rel c xs vs o r⟩
    rcases hk with hk | ⟨n, hk⟩
    · exact .inl hk
    · exact .inr ⟨c.out n, hk⟩
  | .kdct xs, x, o, h => by
    simp only [Rel] at h ⊢
    simp only [old] at o
    obtain ⟨a, e, hk, hn, r⟩ := h
    exact ⟨a, e, hk, hn, oldK_rel c a xs o r⟩
  | .ref i, x, o, h => by
    simp only [Rel] at h ⊢
    simp only [old, decide_eq_true_eq] at o
    obtain ⟨a, e, ha⟩ := h
    exact ⟨a, e, c.get o ha⟩
  | .fn z, x, _, h => by simpa [Rel] using h
theorem oldL_rel (c : Cut0 k φ φ') : ∀ (v : List Val) (x : List V), oldL k v = true → RelL g φ' H v x → RelL g φ H v x
  | [], x, _, h => by simpa [RelL] using h
  | v :: r, x, o, h => by
    simp only [RelL] at h ⊢
    simp only [oldL, Bool.and_eq_true] at o
    obtain ⟨y, t, e, h1, h2⟩ := h
    exact ⟨y, t, e, old_rel c v y o.1 h1, oldL_rel c r t o.2 h2⟩
theorem oldD_rel (c : Cut0 k φ φ') : ∀ (v : List (Val × Val)) (x : List (L2.Key × V)), oldD k v = true → RelD g φ' H v x → RelD g φ H v x
  | [], x, _, h => by simpa [RelD] using h
  | (q, v) :: r, x, o, h => by
    simp only [RelD] at h ⊢
    simp only [oldD, Bool.and_eq_true] at o
    obtain ⟨k', y, t, e, hk, h1, h2⟩ := h
    exact ⟨k', y, t, e, hk, old_rel c v y o.1 h1, oldD_rel c r t o.2 h2⟩
theorem oldK_rel (c : Cut0 k φ φ') (a : Addr) : ∀ (v : List (Str × Val)), oldK k v = true → RelK g φ' H a v → RelK g φ H a v
  | [], _, h => by simpa [RelK] using h
  | (q, v) :: r, o, h => by
    simp only [RelK] at h ⊢
    simp only [oldK, Bool.and_eq_true] at o
    obtain ⟨⟨u, y, h0, h1, h2⟩, h3⟩ := h
    exact ⟨⟨u, y, h0, h1, old_rel c v y o.1 h2⟩, oldK_rel c a r o.2 h3⟩
end
theorem oldF_rel (c : Cut0 k φ φ') : ∀ (v : List (Str × Val)) (x : List (Str × V)), oldF k v = true → RelF g φ' H v x → RelF g φ H v x
  | [], x, _, h => by simpa [RelF] using h
  | (q, v) :: r, x, o, h => by
    simp only [RelF] at h ⊢
    simp only [oldF, Bool.and_eq_true] at o
    obtain ⟨y, t, e, h1, h2⟩ := h
    exact ⟨y, t, e, old_rel c v y o.1 h1, oldF_rel c r t o.2 h2⟩
theorem oldO_rel (c : Cut0 k φ φ') {a : Addr} {o : Obj} (h : oldO k o = true) (r : ObjR g φ' H a o) : ObjR g φ H a o := by
  cases o with
  | lst xs => obtain ⟨vs, h1, h2⟩ := r; exact ⟨vs, h1, oldL_rel c _ _ h h2⟩
  | dct xs => obtain ⟨vs, h1, h2⟩ := r; exact ⟨vs, h1, oldD_rel c _ _ h h2⟩
  | ins C fs => obtain ⟨A, dx, ws, h1, h2, h3⟩ := r; exact ⟨A, dx, ws, h1, h2, oldF_rel c _ _ h h3⟩
theorem mapO_rel {f : Val → Option Val} (hf : ∀ v v' x, f v = some v' → Rel g φ' H v x → Rel g φ H v' x) : ∀ {xs ys : List Val} {vs : List V}, mapO f xs = some ys → RelL g φ' H xs vs → RelL g φ H ys vs
  | [], ys, vs, e, r => by simp only [mapO] at e; cases e; simpa [RelL] using r
  | x :: xs, ys, vs, e, r => by
    simp only [mapO] at e
    cases e1 : f x with
    | none => rw [e1] at e; cases e
    | some y =>
      rw [e1] at e
      obtain ⟨zs, e2, rfl⟩ := Option.map_eq_some_iff.mp e
      simp only [RelL] at r ⊢
      obtain ⟨z, t, rfl, h1, h2⟩ := r
      exact ⟨z, t, rfl, hf _ _ _ e1 h1, mapO_rel hf e2 h2⟩
theorem mapOD_rel {f : Val → Option Val} (hf : ∀ v v' x, f v = some v' → Rel g φ' H v x → Rel g φ H v' x) : ∀ {xs ys : List (Val × Val)} {vs : List (L2.Key × V)}, mapO (fun q => (f q.2).map fun y => (q.1, y)) xs = some ys → RelD g φ' H xs vs → RelD g φ H ys vs
  | [], ys, vs, e, r => by simp only [mapO] at e; cases e; simpa [RelD] using r
  | (q, x) :: xs, ys, vs, e, r => by
    simp only [mapO] at e
    cases e1 : f x with
    | none => rw [e1] at e; cases e
    | some y =>
      rw [e1] at e
      obtain ⟨zs, e2, rfl⟩ := Option.map_eq_some_iff.mp e
      simp only [RelD] at r ⊢
      obtain ⟨k', z, t, rfl, hk, h1, h2⟩ := r
      exact ⟨k', z, t, rfl, hk, hf _ _ _ e1 h1, mapOD_rel hf e2 h2⟩
theorem frz_rel (c : Cut0 k φ φ') {st : Store} (hs : RelSt g φ' st H) : ∀ (n : Nat) (v v' : Val) (x : V), frz k st n v = some v' → Rel g φ' H v x → Rel g φ H v' x
  | 0, v, v', x, e, h => by
    unfold frz at e
    split at e
    · rename_i o; cases e; exact old_rel c v x o h
    · cases e
  | n + 1, v, v', x, e, h => by
    have ih := frz_rel c hs n
    unfold frz at e
    split at e
    · rename_i o; cases e; exact old_rel c v x o h
    · rename_i o
      cases v <;> first | (cases e; done) | skip
      case tup xs =>
        obtain ⟨ys, e5, rfl⟩ := Option.map_eq_some_iff.mp e
        simp only [Rel] at h ⊢
        obtain ⟨a, vs, rfl, na, ha, r⟩ := h
        exact ⟨a, vs, rfl, c.out na, ha, mapO_rel ih e5 r⟩
      case lst xs =>
        obtain ⟨ys, e5, rfl⟩ := Option.map_eq_some_iff.mp e
        simp only [Rel] at h ⊢
        obtain ⟨a, vs, rfl, na, ha, r⟩ := h
        exact ⟨a, vs, rfl, c.out na, ha, mapO_rel ih e5 r⟩
      case dct xs =>
        obtain ⟨ys, e5, rfl⟩ := Option.map_eq_some_iff.mp e
        simp only [Rel] at h ⊢
        obtain ⟨a, vs, rfl, na, ha, r⟩ := h
        exact ⟨a, vs, rfl, c.out na, ha, mapOD_rel ih e5 r⟩
      case ref i =>
        simp only [old, decide_eq_true_eq] at o
        simp only [Rel] at h
        obtain ⟨a, rfl, ha⟩ := h
        have hout : a ∉ φ := Fm.not_mem' (fun m => by
          obtain ⟨j, hj, e2⟩ := List.mem_iff_getElem.mp m
          have h3 : φ'.cells[j]? = some a := by
            obtain ⟨t, e⟩ := c.pre
            rw [← e, List.getElem?_append_left hj]
            simp [hj, e2]
          have h4 := List.getElem?_eq_some_iff.mp h3
          have h5 := List.getElem?_eq_some_iff.mp ha
          obtain ⟨b1, c1⟩ := h4
          obtain ⟨b2, c2⟩ := h5
          have : j = i := (List.getElem_inj hs.nd).mp (c1.trans c2.symm)
          have := c.len
          omega) (fun m => hs.dis a (by rw [c.hid]; exact m) (List.mem_of_getElem? ha))
        dsimp only at e
        split at e
        · rename_i xs q
          obtain ⟨ys, e5, rfl⟩ := Option.map_eq_some_iff.mp e
          obtain ⟨vs, h1, h2⟩ := hs.at_ i a _ ha q
          simp only [Rel]
          exact ⟨a, vs, rfl, hout, h1, mapO_rel ih e5 h2⟩
        · rename_i xs q
          obtain ⟨ys, e5, rfl⟩ := Option.map_eq_some_iff.mp e
          obtain ⟨vs, h1, h2⟩ := hs.at_ i a _ ha q
          simp only [Rel]
          exact ⟨a, vs, rfl, hout, h1, mapOD_rel ih e5 h2⟩
        · cases e
theorem leave_rel {st st' : Store} {v v' : Val} {x : V} {H0 : Hp} (e : leave k v st = .ok v' st') (s : Step φ φ' H0 H) (hk : φ.cells.length = k) (hs : RelSt g φ' st H) (h : Rel g φ' H v x) :
    Step φ φ H0 H ∧ RelSt g φ st' H ∧ Rel g φ H v' x := by
  unfold leave at e
  split at e
  · rename_i w e1 e2
    cases e
    have c : Cut0 k φ φ' := ⟨s.pre, s.hid, hk⟩
    have hle : φ.cells.length ≤ φ'.cells.length := s.pre.length_le
    have hl := hs.len
    refine ⟨⟨List.prefix_refl _, rfl, fun a m n => absurd m n, s.keep⟩, ⟨?_, ?_, fun i a o h1 h2 => ?_, fun a m m' => hs.dis a (by rw [s.hid]; exact m) (s.pre.subset m'), fun a m => hs.hs a (by rw [s.hid]; exact m)⟩, frz_rel c hs 20 v v' x e1 h⟩
    · rw [List.length_take]; omega
    · exact hs.nd.sublist s.pre.sublist
    · have hi : i < k := by have := (List.getElem?_eq_some_iff.mp h1).1; omega
      rw [List.getElem?_take_of_lt hi] at h2
      have ho : oldO k o = true := List.all_eq_true.mp e2 o (List.mem_of_getElem? (i := i) (by rw [List.getElem?_take_of_lt hi]; exact h2))
      exact oldO_rel c ho (hs.at_ i a o (s.get h1) h2)
  · cases e
/-! ### a def's promise -/
/-- how a def stands: fa, fd; its names N, its parameters ps -/
structure DefAt (g : Gm) (P : Program) (mg : Str → Option Value) (base : Heap) (bl fl : List Str) (F : Fn) (fa : Addr) (fd : FuncData) (ps : List Str) : Prop where
  ex : ∃ (N : List Str) (x qual : Str) (params : Arguments) (body : List Stmt) (scope : Scope) (dvs : List V) (kws : List (Str × V)), FunD g.K x qual params body scope dvs kws fa fd ∧ FnScope N ps scope ∧ N.length = F.n ∧
    ∀ (X : Cx) (c : Cf), CtxOk g X c bl fl → X.N = N → X.env.scope = scope → (∀ x, X.fn x = true) → PassesOwn (model X.prog X.w) X.A X.env X.xe → PSs X body (RdB g c F.body)
  np : ps.length = F.np
  b0 : Binds g.K fd ps []
  bd : F.dfl ≠ [] → ∃ (dvs : List V) (ds : List Value), Binds g.K fd ps ds ∧ Vals dvs ds ∧ ∀ φ H, RelL g φ H F.dfl dvs
/-- the promise, so many calls deep -/
def spF (g : Gm) (D : Defs) (G : Str → Option Val) (F : Fn) (n : Nat) (C f : Str) : Sp := fun xs H Q _ => ∃ φ st vs v st', RelSt g φ st H ∧ RelL g φ H vs xs ∧ vs.length = F.np ∧ callFn D G n C f vs st = .ok v st' ∧
  ∀ φ' H' x, Step φ φ' H H' → RelSt g φ' st' H' → Rel g φ' H' v x → Q x H'
/-- all that the evaluator of a law leans on -/
structure Whole (g : Gm) (P : Program) (mg : Str → Option Value) (base : Heap) (bl fl : List Str) (D : Defs) (G : Str → Option Val) : Prop where
  fn : ∀ (f : Str) (F : Fn), findFn D (Str.ofString "") f = some F → ∃ fa fd ps, DefAt g P mg base bl fl F fa fd ps ∧ mg f = some (.ref fa) ∧ PySem.W.keepIn g.K (.ref fa) = true
  me : ∀ (C m : Str) (F : Fn), findFn D C m = some F → C ≠ Str.ofString "" → m ≠ "__init__" → ∃ A fa fd ps, DefAt g P mg base bl fl F fa fd ps ∧ g.clsA C = some A ∧ Cls g.K A ∧ Meth g.K A m fa
  mke : ∀ (C : Str) (F : Fn), findFn D C "__init__" = some F → C ≠ Str.ofString "" → ∃ A fa fd ps, DefAt g P mg base bl fl F fa fd ps ∧ g.clsA C = some A ∧ mg C = some (.ref A) ∧ Mk g.K A fa
  gl : ∀ (x : Str) (v : Val), G x = some v → ∃ u y, mg x = some u ∧ RelV y u ∧ ∀ φ H, Rel g φ H v y
  blt : ∀ x ∈ bl, mg x = none
  fld : ∀ C A f, g.clsA C = some A → f ∈ fl → Cls g.K A ∧ NoAttr g.K A f
theorem start_rel {φ : Fm} {H : Hp} {N : List Str} {n : Nat} {vs : List Val} {xs : List V} (hn : N.length = n) (r : RelL g φ H vs xs) : RelEnv g φ H (startEnv n vs) (L2.start N xs) := by
  have hl := r.length
  refine ⟨?_, fun i v e => ?_⟩
  · simp [startEnv, L2.start, hl, hn]
  · unfold startEnv at e
    unfold L2.start
    by_cases hi : i < vs.length
    · rw [List.getElem?_append_left (by simpa using hi)] at e
      rw [List.getElem?_map] at e
      obtain ⟨u, e1, e2⟩ := Option.map_eq_some_iff.mp e
      cases e2
      obtain ⟨y, h1, h2⟩ := r.get e1
      refine ⟨y, ?_, h2⟩
      rw [List.getElem?_append_left (by rw [List.length_map, ← hl]; exact hi), List.getElem?_map, h1]
      rfl
    · rw [List.getElem?_append_right (by simpa using hi)] at e
      rw [List.getElem?_replicate] at e
      split at e <;> cases e
theorem fullArgs_len {F : Fn} {vs ws : List Val} (h : fullArgs F vs = some ws) : ws.length = F.np ∧ (ws = vs ∨ (F.dfl ≠ [] ∧ ws = vs ++ F.dfl)) := by
  unfold fullArgs at h
  split at h
  · rename_i e; cases h; exact ⟨e, .inl rfl⟩
  · rename_i ne
    split at h
    · rename_i e
      cases h
      refine ⟨by rw [List.length_append]; exact e, .inr ⟨fun z => ?_, rfl⟩⟩
      rw [z] at e
      exact ne e
    · cases h
theorem callFn_full {D : Defs} {G : Str → Option Val} {n : Nat} {C f : Str} {F : Fn} {vs : List Val} {st st' : Store} {v : Val} (hF : findFn D C f = some F) (h : callFn D G n C f vs st = .ok v st') : ∃ ws, fullArgs F vs = some ws ∧ callFn D G n C f ws st = .ok v st' := by
  cases n with
  | zero => exact (bad_ok (st := st) h).elim
  | succ n =>
    unfold callFn at h
    rw [hF] at h
    dsimp only at h
    unfold runBody at h
    cases e : fullArgs F vs with
    | none => rw [e] at h; cases h
    | some ws =>
      refine ⟨ws, rfl, ?_⟩
      have e2 : fullArgs F ws = some ws := by unfold fullArgs; rw [if_pos (fullArgs_len e).1]
      unfold callFn
      rw [hF]
      dsimp only
      unfold runBody
      rw [e] at h
      rw [e2]
      exact h
theorem fn_ok {P : Program} {mg : Str → Option Value} {base : Heap} {bl fl : List Str} {D : Defs} {G : Str → Option Val} (W : Whole g P mg base bl fl D G) :
    ∀ (n : Nat) (C f : Str) (F : Fn) (fa : Addr) (fd : FuncData) (ps : List Str), findFn D C f = some F → DefAt g P mg base bl fl F fa fd ps → FnOk P g.w g.K mg base CX0 n fa fd ps (spF g D G F n C f) := by
  intro n
  induction n using Nat.strongRecOn with
  | ind n ih =>
    intro C f F fa fd ps hF hD
    have hlen : ∀ m xs H Q E, spF g D G F m C f xs H Q E → xs.length = ps.length := fun m xs H Q E ⟨φ, st, vs, v, st', _, r, hl, _⟩ => by rw [← r.length, hl, hD.np]
    cases n with
    | zero => exact ⟨hlen 0, fun A outer s H args us vs Q E _ _ _ _ ⟨φ, st, ws, v, st', _, _, _, h, _⟩ => (bad_ok (st := st) h).elim⟩
    | succ n =>
      obtain ⟨N, x, qual, params, body, scope, dvs, kws, hfun, hsc, hN, hbody⟩ := hD.ex
      refine hfun.ok hsc (hlen (n + 1)) fun cdv A outer s H xs Q E hr ⟨φ, st, vs, v, st', hs, r, hl, ev, k⟩ => ?_
      -- the calls below
      have callok : ∀ (m : Nat), m ≤ n → ∀ (C' f' : Str) (F' : Fn) (fa' : Addr) (fd' : FuncData) (ps' : List Str) (vs' : List Val) (st1 st2 : Store) (v' : Val), findFn D C' f' = some F' → DefAt g P mg base bl fl F' fa' fd' ps' → callFn D G m C' f' vs' st1 = .ok v' st2 →
          ∃ (dvs : List V) (ds : List Value), Binds g.K fd' ps' ds ∧ Vals dvs ds ∧ FnOk P g.w g.K mg base CX0 m fa' fd' ps' (spF g D G F' m C' f') ∧
            ∀ (φ : Fm) (H : Hp) (xs : List V) (Q : VK), RelSt g φ st1 H → RelL g φ H vs' xs → (∀ φ' H' x, Step φ φ' H H' → RelSt g φ' st2 H' → Rel g φ' H' v' x → Q x H') → spF g D G F' m C' f' (xs ++ dvs) H Q E0 := by
        intro m hm C' f' F' fa' fd' ps' vs' st1 st2 v' hF' hD' hc
        have hok := ih m (by omega) C' f' F' fa' fd' ps' hF' hD'
        obtain ⟨ws, hw, hc2⟩ := callFn_full hF' hc
        obtain ⟨hwl, hw2⟩ := fullArgs_len hw
        rcases hw2 with rfl | ⟨hne, rfl⟩
        · refine ⟨[], [], hD'.b0, .nil, hok, fun φ H xs Q h1 h2 h3 => ?_⟩
          rw [List.append_nil]
          exact ⟨φ, st1, ws, v', st2, h1, h2, hwl, hc2, h3⟩
        · obtain ⟨dvs, ds, hb, hv, hr⟩ := hD'.bd hne
          exact ⟨dvs, ds, hb, hv, hok, fun φ H xs Q h1 h2 h3 => ⟨φ, st1, vs' ++ F'.dfl, v', st2, h1, h2.append (hr φ H), hwl, hc2, h3⟩⟩
      let c : Cf := { call := fun f vs => callFn D G n (Str.ofString "") f vs
                      meth := fun C m vs => if C = Str.ofString "" ∨ m = "__init__" then bad else callFn D G n C m vs
                      make := fun C vs => if C = Str.ofString "" then bad else (do
                        let o ← alloc (.ins C [])
                        let r ← (match n with
                          | 0 => bad
                          | n + 1 => callFn D G n C "__init__" (o :: vs))
                        guardM (decide (r = .non))
                        pure o)
                      glob := G }
      have some_of : ∀ {m : Nat} {C f : Str} {vs : List Val} {st st' : Store} {v : Val}, callFn D G m C f vs st = .ok v st' → ∃ F, findFn D C f = some F := by
        intro m C f vs st st' v h
        cases m with
        | zero => exact (bad_ok (st := st) h).elim
        | succ m =>
          unfold callFn at h
          cases e : findFn D C f with
          | none => rw [e] at h; exact (bad_ok (st := st) h).elim
          | some F => exact ⟨F, rfl⟩
      generalize hX : cxOf CX0 P g.w g.K mg base N qual scope fa cdv A outer s H E = X
      have xK : X.K = g.K := by rw [← hX]; rfl
      have xw : X.w = g.w := by rw [← hX]; rfl
      have xP : X.prog = P := by rw [← hX]; rfl
      have xmg : X.mg = mg := by rw [← hX]; rfl
      have xb : X.base = base := by rw [← hX]; rfl
      have xA : Room n X.A := by rw [← hX]; exact hr
      have ctx : CtxOk g X c bl fl := by
        refine ⟨xK, xw, by rw [← hX]; rfl, by rw [← hX]; exact hsc.nd, by have := xA.un; omega, ?_, ?_, ?_, ?_, by rw [xmg]; exact W.blt, by rw [xK]; exact W.fld⟩
        · intro f' vs' st1 st2 v' hc
          obtain ⟨F', hF'⟩ := some_of hc
          obtain ⟨fa', fd', ps', hD', h1, h2⟩ := W.fn f' F' hF'
          obtain ⟨dvs, ds, g1, g2, g3, g4⟩ := callok n (Nat.le_refl _) _ _ F' fa' fd' ps' vs' st1 st2 v' hF' hD' hc
          rw [xK, xw, xP, xmg, xb]
          exact ⟨fa', fd', ps', _, n, dvs, ds, g3, xA, h1, h2, g1, g2, g4⟩
        · intro C' m' vs' st1 st2 v' hc
          have hc : (if C' = Str.ofString "" ∨ m' = "__init__" then bad else callFn D G n C' m' vs') st1 = .ok v' st2 := hc
          split at hc
          · exact (bad_ok (st := st1) hc).elim
          · rename_i hne
            have hne1 := fun z => hne (.inl z)
            have hne2 := fun z => hne (.inr z)
            obtain ⟨F', hF'⟩ := some_of hc
            obtain ⟨A', fa', fd', ps', hD', h1, h2, h3⟩ := W.me C' m' F' hF' hne1 hne2
            obtain ⟨dvs, ds, g1, g2, g3, g4⟩ := callok n (Nat.le_refl _) _ _ F' fa' fd' ps' vs' st1 st2 v' hF' hD' hc
            rw [xK, xw, xP, xmg, xb]
            exact ⟨A', fa', fd', ps', _, n, dvs, ds, h1, h2, h3, g3, xA, g1, g2, g4⟩
        · intro C' vs' st1 st2 v' hc
          have hc : (if C' = Str.ofString "" then bad else (do
                        let o ← alloc (.ins C' [])
                        let r ← (match n with
                          | 0 => bad
                          | n + 1 => callFn D G n C' "__init__" (o :: vs'))
                        guardM (decide (r = .non))
                        pure o : M Val)) st1 = .ok v' st2 := hc
          split at hc
          · exact (bad_ok (st := st1) hc).elim
          · rename_i hne
            obtain ⟨o, st3, e1, hc⟩ := bind_ok hc
            obtain ⟨rv, st4, e2, hc⟩ := bind_ok hc
            obtain ⟨_, st5, e3, hc⟩ := bind_ok hc
            obtain ⟨q3, rfl⟩ := guard_ok e3
            obtain ⟨rfl, rfl⟩ := pure_ok hc
            have q3 := of_decide_eq_true q3
            subst q3
            have e1 : Res.ok (Val.ref st1.length) (st1 ++ [Obj.ins C' []]) = .ok o st3 := e1
            cases e1
            cases n with
            | zero => exact (bad_ok (st := st1) e2).elim
            | succ m =>
              have e2 : callFn D G m C' "__init__" (Val.ref st1.length :: vs') (st1 ++ [Obj.ins C' []]) = .ok .non st4 := e2
              obtain ⟨F', hF'⟩ := some_of e2
              obtain ⟨A', fa', fd', ps', hD', h1, h2, h3⟩ := W.mke C' F' hF' hne
              obtain ⟨dvs, ds, g1, g2, g3, g4⟩ := callok m (Nat.le_succ _) _ _ F' fa' fd' ps' _ _ _ _ hF' hD' e2
              rw [xK, xw, xP, xmg, xb]
              refine ⟨A', fa', fd', ps', _, m, dvs, ds, h2, h3, g3, xA, g1, g2, fun φ1 H1 xs1 Q1 hs1 r1 k1 y dx hy hdx hne' => ?_⟩
              -- the new cell
              let H2 := upd (upd H1 dx (.own y)) y (.ins A' dx [])
              have hy2 : upd H1 dx (.own y) y = none := by rw [upd_ne (fun e => hne' e.symm)]; exact hy
              have s1 : Step φ1 φ1 H1 (upd H1 dx (.own y)) := Step.add hdx
              have s2 : Step φ1 (φ1.push y) (upd H1 dx (.own y)) H2 := Step.cell hy2
              have s12 := s1.trans s2
              have hs2 : RelSt g (φ1.push y) (st1 ++ [Obj.ins C' []]) H2 := (hs1.add hdx).push hy2 ⟨A', dx, [], h1, upd_same, by simp [RelF]⟩
              have ry : Rel g (φ1.push y) H2 (.ref st1.length) (.ref y) := by
                simp only [Rel]
                exact ⟨y, rfl, by rw [← hs1.len]; show (φ1.cells ++ [y])[_]? = _; simp⟩
              have key := g4 (φ1.push y) H2 (.ref y :: xs1) (fun z H3 => z = .non ∧ Q1 (.ref y) H3) hs2 (by simp only [RelL]; exact ⟨_, _, rfl, ry, RelL.mono s12 _ _ r1⟩) fun φ' H' z s3 hs3 rz => by
                simp only [Rel] at rz
                exact ⟨rz, k1 φ' H' _ (s12.trans s3) hs3 (Rel.mono s3 _ _ ry)⟩
              rw [List.cons_append] at key
              exact key
        · intro z v hz
          obtain ⟨u, y, h1, h2, h3⟩ := W.gl z v hz
          exact ⟨u, y, by rw [xmg]; exact h1, h2, h3⟩
      have hb := hbody X c ctx (by rw [← hX]; rfl) (by rw [← hX]; rfl) (by intro x; rw [← hX]; rfl) (by rw [← hX]; exact passes_of rfl)
      refine ⟨RdB g c F.body, hb, ?_⟩
      -- the evaluator's run
      unfold callFn at ev
      rw [hF] at ev
      have ev : runBody c F vs st = .ok v st' := ev
      unfold runBody at ev
      have hfull : fullArgs F vs = some vs := by unfold fullArgs; rw [if_pos hl]
      rw [hfull] at ev
      dsimp only at ev
      have he0 : RelEnv g φ H (startEnv F.n vs) (L2.start N xs) := start_rel hN r
      cases eb : execB c F.body (startEnv F.n vs) st with
      | bad => rw [eb] at ev; cases ev
      | exc C1 v1 st1 => rw [eb] at ev; cases ev
      | ok fl st1 =>
        rw [eb] at ev
        have done : ∀ (φ' : Fm) (H' : Hp) (w : Val) (x : V), (if F.drop = true then leave st.length w else pure w) st1 = .ok v st' → Step φ φ' H H' → RelSt g φ' st1 H' → Rel g φ' H' w x → Q x H' := by
          intro φ' H' w x el s1 hs1 rw1
          cases hdr : F.drop with
          | true =>
            rw [hdr, if_pos rfl] at el
            obtain ⟨t1, t2, t3⟩ := leave_rel el s1 hs.len hs1 rw1
            exact k φ H' x t1 t2 t3
          | false =>
            rw [hdr, if_neg Bool.false_ne_true] at el
            obtain ⟨rfl, rfl⟩ := pure_ok el
            exact k φ' H' x s1 hs1 rw1
        refine ⟨φ, startEnv F.n vs, st, fl, st1, he0, hs, eb, ?_⟩
        cases fl with
        | nxt ρ1 => exact fun φ1 H1 σ1 s1 hs1 he1 => done φ1 H1 .non .non ev s1 hs1 (by simp [Rel])
        | ret w => exact fun φ1 H1 x1 s1 hs1 r1 => done φ1 H1 w x1 ev s1 hs1 r1
        | brk ρ1 => cases ev
        | cnt ρ1 => cases ev
end
end Mn

end

section
set_option maxHeartbeats 2000000
/-! Mn: the check that a mini text is a text of the language. -/
namespace Mn
open PySem PySem.Spec PyProof.Rows L2

structure Kx where
  N : List Str
  sc : Scope
  fn : Str → Bool
  bl : List Str
  fl : List Str
def Kx.blk (k : Kx) (scope : Scope) : Kx := { k with sc := relS scope k.sc, fn := fun x => scope.names.lookup x == some .cell }
def Kx.st (k : Kx) (x : Str) : Bool := match k.sc.names.lookup x with
  | some .local => true
  | some .cell => k.fn x
  | _ => false
def Kx.at (k : Kx) (i : Nat) (x : Str) : Bool := decide (k.N[i]? = some x)
def cstB (v : Val) (e : Expr) : Bool := match v, e with
  | .int i, .Constant (.int j) _ _ => decide (i = j)
  | .str x, .Constant (.str y) _ _ => decide (x = y)
  | .bl x, .Constant (.bool y) _ _ => x == y
  | .non, .Constant .none _ _ => true
  | _, _ => false
/-- a test that is the truth of the value -/
def ptB : Expr → Bool
  | .UnaryOp .Not _ _ => false
  | .BoolOp _ _ _ => false
  | .IfExp _ _ _ _ => false
  | .Compare _ _ _ _ => false
  | _ => true
def isBoolOp : Expr → Bool
  | .BoolOp _ _ _ => true
  | _ => false
def Kx.blt (k : Kx) (x : Str) : Bool := glB k.sc x && k.bl.contains x
def sameLine (a p : Pos) : Bool := a.endLine == p.line
def chkG (k : Kx) : Tg → Expr → Bool
  | .nm i, .Name x _ => k.at i x && k.st x
  | .nms is, .Tuple es _ _ => es.length == is.length && (is.zip es).all fun p => match p.2 with
    | .Name x _ => k.at p.1 x && k.st x
    | _ => false
  | _, _ => false
mutual
def chk (k : Kx) (t : Bool) : Ex → Expr → Bool
  | .var i, e => (!t || ptB e) && (match e with
    | .Name x _ => k.at i x && (visB k.sc x && plainName x)
    | _ => false)
  | .cst v, e => (!t || ptB e) && cstB v e
  | .bad, _ => true
  | .glo x, e => (!t || ptB e) && (match e with
    | .Name y _ => decide (x = y) && (glB k.sc y && plainName y)
    | _ => false)
  | .tup ms, e => (!t || ptB e) && (match e with
    | .Tuple es _ _ => chkL k ms es
    | _ => false)
  | .lst _ ms, e => (!t || ptB e) && (match e with
    | .List es _ => chkL k ms es
    | _ => false)
  | .dct _ ms, e => (!t || ptB e) && (match e with
    | .Dict keys values _ => chkD k ms keys values && decide (keys.length ≤ 15)
    | _ => false)
  | .bin o a b, e => (!t || ptB e) && (match e with
    | .BinOp a' o' b' _ => decide (o' = opOf o) && (chk k false a a' && chk k false b b')
    | _ => false)
  | .neg a, e => (!t || ptB e) && (match e with
    | .UnaryOp .USub a' _ => chk k false a a'
    | _ => false)
  | .not a, e => (match e with
    | .UnaryOp .Not a' _ => chk k t a a'
    | _ => false)
  | .cmp o a b, e => (match e with
    | .Compare a' [o'] [b'] _ => decide (o' = cmOf o) && (!behindInMarks (cmOf o) b' && (chk k false a a' && chk k false b b'))
    | _ => false)
  | .chain o p a b d, e => (match e with
    | .Compare a' [o', p'] [b', d'] _ => decide (o' = cmOf o) && (decide (p' = cmOf p) && (!lastMarks [cmOf o, cmOf p] [b', d'] && (chk k false a a' && (chk k false b b' && chk k false d d'))))
    | _ => false)
  | .and a b, e => (match e with
    | .BoolOp .And (e1 :: e2 :: rest) p => chk k t a e1 && (match rest with
      | [] => chk k t b e2
      | _ :: _ => chk k t b (.BoolOp .And (e2 :: rest) p))
    | _ => false)
  | .or a b, e => (match e with
    | .BoolOp .Or (e1 :: e2 :: rest) p => chk k t a e1 && (match rest with
      | [] => chk k t b e2
      | _ :: _ => chk k t b (.BoolOp .Or (e2 :: rest) p))
    | _ => false)
  | .ite d a b, e => !t && (match e with
    | .IfExp d' a' b' _ => chk k true d d' && (chk k false a a' && chk k false b b')
    | _ => false)
  | .idx a i, e => (!t || ptB e) && (match e with
    | .Subscript a' i' _ => notSlice i' && (chk k false a a' && chk k false i i')
    | _ => false)
  | .slc _ a lo hi, e => (!t || ptB e) && (match e with
    | .Subscript a' (.Slice lo' hi' none _) _ => chk k false a a' && (chkO k lo lo' && chkO k hi hi')
    | _ => false)
  | .rev _ a, e => (!t || ptB e) && (match e with
    | .Subscript a' (.Slice none none (some (.UnaryOp .USub (.Constant (.int i) _ _) _)) _) _ => decide (i = 1) && chk k false a a'
    | _ => false)
  | .fld a f, e => (!t || ptB e) && (match e with
    | .Attribute a' f' _ => decide (f = f') && (baseOk a' && (k.fl.contains f' && chk k false a a'))
    | _ => false)
  | .call f ms, e => (!t || ptB e) && (match e with
    | .Call (.Name f' _) es [] _ => decide (f = f') && (glB k.sc f' && (plainName f' && chkL k ms es))
    | _ => false)
  | .make f ms, e => (!t || ptB e) && (match e with
    | .Call (.Name f' _) es [] _ => decide (f = f') && (glB k.sc f' && (plainName f' && chkL k ms es))
    | _ => false)
  | .meth a m ms, e => (!t || ptB e) && (match e with
    | .Call (.Attribute a' m' ap) es [] p => decide (m = m') && (baseOk a' && (sameLine ap p && (decide (es.length < 30) && (chk k false a a' && chkL k ms es))))
    | _ => false)
  | .blt _ b ms, e => (!t || ptB e) && (match e with
    | .Call (.Name x _) es [] _ => decide (x = bltN b) && (k.blt x && (!es.isEmpty && chkL k ms es))
    | _ => false)
  | .lrng _ ms, e => (!t || ptB e) && (match e with
    | .Call (.Name x _) [.Call (.Name y _) es [] _] [] _ => decide (x = "list") && (decide (y = "range") && (k.blt x && (k.blt y && (decide (es.length = 1 ∨ es.length = 2) && chkL k ms es))))
    | _ => false)
  | .bm m a ms, e => (!t || ptB e) && (match e with
    | .Call (.Attribute a' n ap) es [] p => decide (n = bmN m) && (baseOk a' && (sameLine ap p && (decide (es.length < 30) && ((bmL m || (decide (m = .get1) && decide (es.length = 1) || decide (m = .get2) && decide (es.length = 2))) && (chk k false a a' && chkL k ms es)))))
    | _ => false)
  | .isi a T, e => (!t || ptB e) && (match e with
    | .Call (.Name x _) [a', .Name T' _] [] _ => decide (x = "isinstance") && (decide (T = T') && (k.blt x && (k.blt T' && (tyTab.any (fun p => decide (p.1 = T')) && (notStar a' && chk k false a a')))))
    | _ => false)
  | .comp _ elt tg it ifs, e => (!t || ptB e) && (match e with
    | .ListComp elt' [⟨tg', it', ifs', as⟩] scope _ => decide (as = 0) && (chkI k it it' && (notSet it' && (blkC k.N k.sc scope (ownOf k.N (tgSlots tg)) && (chkG (k.blk scope) tg tg' && (chkTs (k.blk scope) ifs ifs' && chk (k.blk scope) false elt elt')))))
    | _ => false)
  | .comp2 _ elt tg it ifs tg1 it1 ifs1, e => (!t || ptB e) && (match e with
    | .ListComp elt' [⟨tg', it', ifs', as⟩, ⟨tg1', it1', ifs1', as1⟩] scope _ => decide (as = 0) && (decide (as1 = 0) && (chkI k it it' && (notSet it' && (notSet it1' && (blkC k.N k.sc scope (ownOf k.N (tgSlots tg ++ tgSlots tg1)) && (chkG (k.blk scope) tg tg' && (chkTs (k.blk scope) ifs ifs' &&
        (chkI (k.blk scope) it1 it1' && (chkG (k.blk scope) tg1 tg1' && (chkTs (k.blk scope) ifs1 ifs1' && chk (k.blk scope) false elt elt'))))))))))
    | _ => false)
def chkL (k : Kx) : List Ex → List Expr → Bool
  | [], es => es.isEmpty
  | m :: ms, es => (match es with
    | e :: es => notStar e && (chk k false m e && chkL k ms es)
    | [] => false)
def chkD (k : Kx) : List Ex → List (Option Expr) → List Expr → Bool
  | [], ks, vs => ks.isEmpty && vs.isEmpty
  | [_], _, _ => false
  | a :: b :: ms, ks, vs => (match ks, vs with
    | some e :: ks, f :: vs => chk k false a e && (chk k false b f && chkD k ms ks vs)
    | _, _ => false)
def chkO (k : Kx) : Option Ex → Option Expr → Bool
  | none, e => e.isNone
  | some m, e => (match e with
    | some e => chk k false m e
    | none => false)
/-- no test or one -/
def chkTs (k : Kx) : List Ex → List Expr → Bool
  | [], es => es.isEmpty
  | [m], es => (match es with
    | [e] => chk k true m e
    | _ => false)
  | _ :: _ :: _, _ => false
def chkI (k : Kx) : It → Expr → Bool
  | .of m, e => chk k false m e
  | .rng ms, e => (match e with
    | .Call (.Name x _) es [] _ => decide (x = "range") && (k.blt x && (decide (es.length = 1 ∨ es.length = 2 ∨ es.length = 3) && chkL k ms es))
    | _ => false)
  | .rev m, e => (match e with
    | .Call (.Name x _) [a] [] _ => decide (x = "reversed") && (k.blt x && (notStar a && chk k false m a))
    | _ => false)
end
end Mn

end

section
set_option maxHeartbeats 4000000
/-! Mn: what is checked is read rightly. -/
namespace Mn
open PySem PySem.Spec PyProof.Rows L2

structure Fits (k : Kx) (X : Cx) : Prop where
  N : X.N = k.N
  sc : X.env.scope = k.sc
  fn : ∀ x, k.fn x = true → X.fn x = true
theorem Fits.blk {k : Kx} {X : Cx} (f : Fits k X) (scope : Scope) (s : Shared) (H : Hp) (C : Addr) (cl : List (Str × Addr)) (fp : List Addr) : Fits (k.blk scope) (X.blk s H scope (compEnvC scope cl C X.env) fp) :=
  ⟨f.N, by show relS scope X.env.scope = relS scope k.sc; rw [f.sc], fun x h => h⟩
theorem pt_ok {e : Expr} (h : ptB e = true) (env : PySem.Env) (whole : Sem Value) : isTrue e env whole = (do let v ← whole; standAt e.pos; holding [v] (PySem.truthy v)) := by
  cases e <;> first
    | rfl
    | (exact Bool.noConfusion h)
    | (rename_i op _ _; cases op <;> first | rfl | exact Bool.noConfusion h)
theorem sl_plain {e : Expr} (h : notSlice e = true) : PlainIx e := by
  cases e <;> first
    | (intro o i; rfl)
    | exact Bool.noConfusion h
section
variable {g : Gm} {c : Cf} {bl fl : List Str}
def Snd (g : Gm) (c : Cf) (t : Bool) (X : Cx) (e : Expr) (m : Ex) : Prop := (t = false → PE X e (RdE g c m)) ∧ (t = true → PT X e (RdT g c m)) ∧ (t = true → isBoolOp e = true → PW X e (RdT g c m))
theorem Snd.plain {t : Bool} {X : Cx} {e : Expr} {m : Ex} (C : CtxOk g X c bl fl) (h : (!t || ptB e) = true) (p : PE X e (RdE g c m)) : Snd g c t X e m := by
  refine ⟨fun _ => p, fun ht => ?_, fun ht hb => ?_⟩
  · subst ht
    exact rt_truth C p (pt_ok h X.env)
  · subst ht
    have h : ptB e = true := h
    cases e <;> first | exact Bool.noConfusion hb | exact Bool.noConfusion h
theorem Snd.bad {t : Bool} {X : Cx} {e : Expr} : Snd g c t X e .bad := by
  refine ⟨fun _ => PE.of ?_, fun _ => PT.of ?_, fun _ _ => PW.of ?_⟩
  · rintro σ H Q ⟨φ, ρ, st, v, st', he, hst, ev, k⟩
    cases (show (Res.bad : Res Val) = _ from ev)
  · rintro σ H Q ⟨φ, ρ, st, v, st', he, hst, ev, k⟩
    cases (show (Res.bad : Res Bool) = _ from ev)
  · rintro σ H Q ⟨φ, ρ, st, v, st', he, hst, ev, k⟩
    cases (show (Res.bad : Res Bool) = _ from ev)
theorem Snd.e {X : Cx} {e : Expr} {m : Ex} (s : Snd g c false X e m) : PE X e (RdE g c m) := s.1 rfl
theorem Snd.t {X : Cx} {e : Expr} {m : Ex} (s : Snd g c true X e m) : PT X e (RdT g c m) := s.2.1 rfl
theorem Snd.no {X : Cx} {e : Expr} {m : Ex} (h : PT X e (RdT g c m)) (p : PE X e (RdE g c m)) (hb : isBoolOp e = false) (t : Bool) : Snd g c t X e m := ⟨fun _ => p, fun _ => h, fun _ z => by rw [hb] at z; cases z⟩
theorem Snd.ofE {X : Cx} {e : Expr} {m : Ex} (p : PE X e (RdE g c m)) : Snd g c false X e m := ⟨fun _ => p, fun (z : false = true) => Bool.noConfusion z, fun (z : false = true) => Bool.noConfusion z⟩
theorem cst_ok {X : Cx} {v : Val} {e : Expr} (h : cstB v e = true) : PE X e (RdE g c (.cst v)) := by
  unfold cstB at h
  split at h
  · have h := of_decide_eq_true h; subst h; exact rd_cst pe_int fun _ _ => by simp [Rel]
  · have h := of_decide_eq_true h; subst h; exact rd_cst pe_str fun _ _ => by simp [Rel]
  · have h := eq_of_beq h; subst h; exact rd_cst pe_bl fun _ _ => by simp [Rel]
  · exact rd_cst pe_non fun _ _ => by simp [Rel]
  · cases h
theorem st_ok {k : Kx} {X : Cx} (f : Fits k X) {x : Str} (h : k.st x = true) : stB X x = true := by
  unfold Kx.st at h
  unfold stB
  rw [f.sc]
  generalize k.sc.names.lookup x = o at h ⊢
  cases o with
  | none => cases h
  | some kd => cases kd <;> first | rfl | exact f.fn x h | exact Bool.noConfusion h
theorem at_ok {k : Kx} {X : Cx} (f : Fits k X) {i : Nat} {x : Str} (h : k.at i x = true) : X.N[i]? = some x := by
  rw [f.N]; exact of_decide_eq_true h
theorem vis_ok {k : Kx} {X : Cx} (f : Fits k X) {x : Str} (h : visB k.sc x = true) : visB X.env.scope x = true := by rw [f.sc]; exact h
theorem gl_ok {k : Kx} {X : Cx} (f : Fits k X) {x : Str} (h : glB k.sc x = true) : glB X.env.scope x = true := by rw [f.sc]; exact h
theorem gs_ok {k : Kx} {X : Cx} (C : CtxOk g X c bl fl) (f : Fits k X) : ∀ {is : List Nat} {es : List Expr}, es.length = is.length → ((is.zip es).all fun p => match p.2 with
    | .Name x _ => k.at p.1 x && k.st x
    | _ => false) = true → PGs X es (RdGs g is) ∧ es.all notStar = true
  | [], [], _, _ => ⟨rgs_nil, rfl⟩
  | [], _ :: _, hl, _ => absurd hl (by simp)
  | _ :: _, [], hl, _ => absurd hl (by simp)
  | i :: is, e :: es, hl, h => by
    rw [List.zip_cons_cons, List.all_cons, Bool.and_eq_true] at h
    obtain ⟨r1, r2⟩ := gs_ok C f (by simpa using hl) h.2
    have h1 := h.1
    split at h1
    · rename_i x p q
      rw [Bool.and_eq_true] at h1
      have q : e = .Name x p := q
      subst q
      exact ⟨rgs_cons C.nd (at_ok f h1.1) (st_ok f h1.2) r1, by rw [List.all_cons, r2]; rfl⟩
    · cases h1
theorem g_ok {k : Kx} {X : Cx} (C : CtxOk g X c bl fl) (f : Fits k X) {t : Tg} {e : Expr} (h : chkG k t e = true) : PG X e (RdG g t) := by
  unfold chkG at h
  split at h
  · rw [Bool.and_eq_true] at h
    exact rg_nm C.nd (at_ok f h.1) (st_ok f h.2)
  · rw [Bool.and_eq_true] at h
    have hl := eq_of_beq h.1
    obtain ⟨r1, r2⟩ := gs_ok C f hl h.2
    obtain ⟨l1, l2⟩ := assign_len (env := X.env) r2
    exact rg_nms C hl r1 l1 l2
  · cases h
theorem blt_ok {k : Kx} {X : Cx} (f : Fits k X) {x : Str} (h : k.blt x = true) : glB X.env.scope x = true ∧ k.bl.contains x = true := by
  unfold Kx.blt at h
  rw [Bool.and_eq_true] at h
  exact ⟨gl_ok f h.1, h.2⟩
theorem mem_of_contains {l : List Str} {x : Str} (h : l.contains x = true) : x ∈ l := List.contains_iff_mem.mp h
def PEs (g : Gm) (c : Cf) (X : Cx) : List Expr → List Ex → Prop
  | [], [] => True
  | e :: es, m :: ms => PE X e (RdE g c m) ∧ PEs g c X es ms
  | _, _ => False
theorem chkR_ok {X : Cx} (C : CtxOk g X c bl fl) {es : List Expr} {ms : List Ex} {cell : Bool} {p1 p2 q1 q2 : Pos} (h : PEs g c X es ms) (hn : es.all notStar = true) (hl : es.length = 1 ∨ es.length = 2) (b1 : glB X.env.scope "list" = true) (b2 : bl.contains "list" = true) (b3 : glB X.env.scope "range" = true) (b4 : bl.contains "range" = true) :
    PE X (.Call (.Name "list" p1) [.Call (.Name "range" q1) es [] q2] [] p2) (RdE g c (.lrng cell ms)) := by
  match es, ms, h, hl with
  | [], _, _, hl => rcases hl with hl | hl <;> cases hl
  | [e], [m], h, _ =>
    simp only [List.all_cons, Bool.and_eq_true] at hn
    exact rd_lrng1 C b1 b2 b3 b4 h.1 hn.1
  | [e, e2], [m, n], h, _ =>
    simp only [List.all_cons, Bool.and_eq_true] at hn
    exact rd_lrng2 C b1 b2 b3 b4 h.1 h.2.1 hn.1 hn.2.1
  | [_], [], h, _ => exact h.elim
  | [_], _ :: _ :: _, h, _ => exact h.2.elim
  | [_, _], [], h, _ => exact h.elim
  | [_, _], [_], h, _ => exact h.2.elim
  | [_, _], _ :: _ :: _ :: _, h, _ => exact h.2.2.elim
  | _ :: _ :: _ :: _, _, _, hl => rcases hl with hl | hl <;> simp at hl
theorem chkM_ok {X : Cx} (C : CtxOk g X c bl fl) {m : Bm} {a : Ex} {a' : Expr} {es : List Expr} {ms : List Ex} {n : Str} {ap p : Pos} (h : PA X es (RdL g c ms)) (hn : es.all notStar = true) (he : PEs g c X es ms) (hname : n = bmN m) (s : PE X a' (RdE g c a)) (hb : baseOk a' = true) (hl : sameLine ap p = true) (h30 : es.length < 30)
    (hm : bmL m = true ∨ (m = .get1 ∧ es.length = 1) ∨ (m = .get2 ∧ es.length = 2)) : PE X (.Call (.Attribute a' n ap) es [] p) (RdE g c (.bm m a ms)) := by
  rcases hm with hm | ⟨rfl, hm⟩ | ⟨rfl, hm⟩
  · match es, ms, h, he with
    | [], [], h, _ => exact rd_bmL0 C hm hname s hb hl
    | e :: es, ms, h, _ => exact rd_bmL C hm hname s h hb hn h30 hl
    | [], _ :: _, _, he => exact he.elim
  · subst hname
    match es, ms, hm, he with
    | [e], [m], _, he =>
      simp only [List.all_cons, Bool.and_eq_true] at hn
      exact rd_get1 C s he.1 hb hn.1 hl
    | [_], [], _, he => exact he.elim
    | [_], _ :: _ :: _, _, he => exact he.2.elim
  · subst hname
    match es, ms, hm, he with
    | [e, e2], [m, n], _, he =>
      simp only [List.all_cons, Bool.and_eq_true] at hn
      exact rd_get2 C s he.1 he.2.1 hb hn.1 hn.2.1 hl
    | [_, _], [], _, he => exact he.elim
    | [_, _], [_], _, he => exact he.2.elim
    | [_, _], _ :: _ :: _ :: _, _, he => exact he.2.2.elim
theorem chkL_len (k : Kx) : ∀ (ms : List Ex) (es : List Expr), chkL k ms es = true → ms.length = es.length
  | [], es, h => by
    unfold chkL at h
    cases es with
    | nil => rfl
    | cons e es => cases h
  | m :: ms, es, h => by
    unfold chkL at h
    cases es with
    | nil => cases h
    | cons e es =>
      simp only [Bool.and_eq_true] at h
      simp [chkL_len k ms es h.2.2]
theorem chkRg_ok {X : Cx} {tg : Expr} {p pos : Pos} {ms : List Ex} {es : List Expr} (C : CtxOk g X c bl fl) (h : PA X es (RdL g c ms)) (hn : es.all notStar = true) (hl : es.length = 1 ∨ es.length = 2 ∨ es.length = 3) (hm : ms.length = es.length) (b1 : glB X.env.scope "range" = true) (b2 : bl.contains "range" = true) :
    PI X tg (.Call (.Name "range" p) es [] pos) (RdI g c (.rng ms)) := by
  match es, ms, hl, hm with
  | [e], [m], _, _ => exact rdI_rng1 C b1 b2 h (by simpa using hn)
  | [e, e2], [m, m2], _, _ =>
    simp only [List.all_cons, Bool.and_eq_true, List.all_nil] at hn
    exact rdI_rng2 C b1 b2 h hn.1 hn.2.1
  | [e, e2, e3], [m, m2, m3], _, _ =>
    rw [List.all_cons, Bool.and_eq_true] at hn
    exact rdI_rng3 C b1 b2 h hn.1 hn.2
  | [], _, hl, _ => rcases hl with hl | hl | hl <;> cases hl
  | _ :: _ :: _ :: _ :: _, _, hl, _ => rcases hl with hl | hl | hl <;> simp at hl
mutual
theorem chk_ok (k : Kx) (X : Cx) (C : CtxOk g X c k.bl k.fl) (f : Fits k X) (t : Bool) : ∀ (m : Ex) (e : Expr), chk k t m e = true → Snd g c t X e m
  | .var i, e, h => by
    unfold chk at h; rw [Bool.and_eq_true] at h
    refine Snd.plain C h.1 ?_
    have h2 := h.2
    split at h2
    · simp only [Bool.and_eq_true] at h2
      exact rd_var (at_ok f h2.1) (vis_ok f h2.2.1) h2.2.2
    · cases h2
  | .bad, e, h => Snd.bad
  | .cst v, e, h => by
    unfold chk at h; rw [Bool.and_eq_true] at h
    exact Snd.plain C h.1 (cst_ok h.2)
  | .glo x, e, h => by
    unfold chk at h; rw [Bool.and_eq_true] at h
    refine Snd.plain C h.1 ?_
    have h2 := h.2
    split at h2
    · simp only [Bool.and_eq_true, decide_eq_true_eq] at h2
      obtain ⟨rfl, h3, h4⟩ := h2
      exact rd_glo C (gl_ok f h3) h4
    · cases h2
  | .tup ms, e, h => by
    unfold chk at h; rw [Bool.and_eq_true] at h
    refine Snd.plain C h.1 ?_
    have h2 := h.2
    split at h2
    · exact rd_tup (chkL_ok k X C f ms _ h2).1
    · cases h2
  | .lst _ ms, e, h => by
    unfold chk at h; rw [Bool.and_eq_true] at h
    refine Snd.plain C h.1 ?_
    have h2 := h.2
    split at h2
    · exact rd_lst (chkL_ok k X C f ms _ h2).1
    · cases h2
  | .dct _ ms, e, h => by
    unfold chk at h; rw [Bool.and_eq_true] at h
    refine Snd.plain C h.1 ?_
    have h2 := h.2
    split at h2
    · simp only [Bool.and_eq_true, decide_eq_true_eq] at h2
      obtain ⟨h3, h5⟩ := h2
      rename_i keys values pos
      obtain ⟨es, rfl, p1, p2, p3⟩ := chkD_ok k X C f pos ms _ _ h3
      cases keys with
      | nil =>
        cases values with
        | nil =>
          cases es with
          | nil => exact rd_dct0
          | cons p es => exact absurd h3 (by unfold flatE chkD; exact Bool.false_ne_true)
        | cons v vs => cases p3
      | cons kk ks => exact rd_dct C p1 p2 p3 (by intro e; cases e) h5
    · cases h2
  | .bin o a b, e, h => by
    unfold chk at h; rw [Bool.and_eq_true] at h
    refine Snd.plain C h.1 ?_
    have h2 := h.2
    split at h2
    · simp only [Bool.and_eq_true, decide_eq_true_eq] at h2
      obtain ⟨rfl, h3, h4⟩ := h2
      exact rd_bin C (chk_ok k X C f false a _ h3).e (chk_ok k X C f false b _ h4).e
    · cases h2
  | .neg a, e, h => by
    unfold chk at h; rw [Bool.and_eq_true] at h
    refine Snd.plain C h.1 ?_
    have h2 := h.2
    split at h2
    · exact rd_neg (chk_ok k X C f false a _ h2).e
    · cases h2
  | .not a, e, h => by
    unfold chk at h
    split at h
    · have s := chk_ok k X C f t a _ h
      refine ⟨fun ht => rd_not C (s.1 ht), fun ht => rt_not (s.2.1 ht), fun _ z => Bool.noConfusion z⟩
    · cases h
  | .cmp o a b, e, h => by
    unfold chk at h
    split at h
    · simp only [Bool.and_eq_true, decide_eq_true_eq, Bool.not_eq_true'] at h
      obtain ⟨rfl, h3, h4, h5⟩ := h
      have s1 := (chk_ok k X C f false a _ h4).e
      have s2 := (chk_ok k X C f false b _ h5).e
      exact Snd.no (rt_cmp C s1 s2 h3) (rd_cmp C s1 s2 h3) rfl t
    · cases h
  | .chain o p a b d, e, h => by
    unfold chk at h
    split at h
    · simp only [Bool.and_eq_true, decide_eq_true_eq, Bool.not_eq_true'] at h
      obtain ⟨rfl, rfl, h3, h4, h5, h6⟩ := h
      have s1 := (chk_ok k X C f false a _ h4).e
      have s2 := (chk_ok k X C f false b _ h5).e
      have s3 := (chk_ok k X C f false d _ h6).e
      exact Snd.no (rt_chain C s1 s2 s3 h3) (rd_chain C s1 s2 s3 h3) rfl t
    · cases h
  | .and a b, e, h => by
    unfold chk at h
    split at h
    · rename_i e1 e2 rest p
      rw [Bool.and_eq_true] at h
      have s1 := chk_ok k X C f t a _ h.1
      cases rest with
      | nil =>
        have s2 := chk_ok k X C f t b _ h.2
        have pw : t = true → PW X (.BoolOp .And [e1, e2] p) (RdT g c (.and a b)) := fun ht => rw_and (s1.2.1 ht) (rw_one .And (s2.2.1 ht))
        exact ⟨fun ht => rd_and C (s1.1 ht) (rd_one (s2.1 ht)), fun ht => (pw ht).pt, fun ht _ => pw ht⟩
      | cons e3 rest =>
        have s2 := chk_ok k X C f t b _ h.2
        have pw : t = true → PW X (.BoolOp .And (e1 :: e2 :: e3 :: rest) p) (RdT g c (.and a b)) := fun ht => rw_and (s1.2.1 ht) (s2.2.2 ht rfl)
        exact ⟨fun ht => rd_and C (s1.1 ht) (s2.1 ht), fun ht => (pw ht).pt, fun ht _ => pw ht⟩
    · cases h
  | .or a b, e, h => by
    unfold chk at h
    split at h
    · rename_i e1 e2 rest p
      rw [Bool.and_eq_true] at h
      have s1 := chk_ok k X C f t a _ h.1
      cases rest with
      | nil =>
        have s2 := chk_ok k X C f t b _ h.2
        have pw : t = true → PW X (.BoolOp .Or [e1, e2] p) (RdT g c (.or a b)) := fun ht => rw_or (s1.2.1 ht) (rw_one .Or (s2.2.1 ht))
        exact ⟨fun ht => rd_or C (s1.1 ht) (rd_one (s2.1 ht)), fun ht => (pw ht).pt, fun ht _ => pw ht⟩
      | cons e3 rest =>
        have s2 := chk_ok k X C f t b _ h.2
        have pw : t = true → PW X (.BoolOp .Or (e1 :: e2 :: e3 :: rest) p) (RdT g c (.or a b)) := fun ht => rw_or (s1.2.1 ht) (s2.2.2 ht rfl)
        exact ⟨fun ht => rd_or C (s1.1 ht) (s2.1 ht), fun ht => (pw ht).pt, fun ht _ => pw ht⟩
    · cases h
  | .ite d a b, e, h => by
    unfold chk at h; rw [Bool.and_eq_true] at h
    obtain ⟨h1, h2⟩ := h
    split at h2
    · simp only [Bool.and_eq_true, Bool.not_eq_true'] at h1 h2
      subst h1
      exact Snd.ofE (rd_ite (chk_ok k X C f true d _ h2.1).t (chk_ok k X C f false a _ h2.2.1).e (chk_ok k X C f false b _ h2.2.2).e)
    · cases h2
  | .idx a i, e, h => by
    unfold chk at h; rw [Bool.and_eq_true] at h
    refine Snd.plain C h.1 ?_
    have h2 := h.2
    split at h2
    · simp only [Bool.and_eq_true] at h2
      exact rd_idx C (chk_ok k X C f false a _ h2.2.1).e (chk_ok k X C f false i _ h2.2.2).e (sl_plain h2.1)
    · cases h2
  | .slc _ a lo hi, e, h => by
    unfold chk at h; rw [Bool.and_eq_true] at h
    refine Snd.plain C h.1 ?_
    have h2 := h.2
    split at h2
    · simp only [Bool.and_eq_true] at h2
      exact rd_slc C (chk_ok k X C f false a _ h2.1).e (chkO_ok k X C f lo _ h2.2.1) (chkO_ok k X C f hi _ h2.2.2)
    · cases h2
  | .rev _ a, e, h => by
    unfold chk at h; rw [Bool.and_eq_true] at h
    refine Snd.plain C h.1 ?_
    have h2 := h.2
    split at h2
    · simp only [Bool.and_eq_true, decide_eq_true_eq] at h2
      obtain ⟨rfl, h3⟩ := h2
      exact rd_rev C (chk_ok k X C f false a _ h3).e
    · cases h2
  | .fld a fd, e, h => by
    unfold chk at h; rw [Bool.and_eq_true] at h
    refine Snd.plain C h.1 ?_
    have h2 := h.2
    split at h2
    · simp only [Bool.and_eq_true, decide_eq_true_eq] at h2
      obtain ⟨rfl, h3, h4, h5⟩ := h2
      exact rd_fld C (chk_ok k X C f false a _ h5).e h3 (mem_of_contains h4)
    · cases h2
  | .call fn ms, e, h => by
    unfold chk at h; rw [Bool.and_eq_true] at h
    refine Snd.plain C h.1 ?_
    have h2 := h.2
    split at h2
    · simp only [Bool.and_eq_true, decide_eq_true_eq] at h2
      obtain ⟨rfl, h3, h4, h5⟩ := h2
      obtain ⟨p1, p2, p3⟩ := chkL_ok k X C f ms _ h5
      rename_i es _
      cases es with
      | nil =>
        cases ms with
        | nil => exact rd_call0 C (gl_ok f h3) h4
        | cons m ms => exact absurd h5 (by unfold chkL; exact Bool.false_ne_true)
      | cons e es => exact rd_call C p1 p2 (gl_ok f h3) h4
    · cases h2
  | .make fn ms, e, h => by
    unfold chk at h; rw [Bool.and_eq_true] at h
    refine Snd.plain C h.1 ?_
    have h2 := h.2
    split at h2
    · simp only [Bool.and_eq_true, decide_eq_true_eq] at h2
      obtain ⟨rfl, h3, h4, h5⟩ := h2
      obtain ⟨p1, p2, p3⟩ := chkL_ok k X C f ms _ h5
      rename_i es _
      cases es with
      | nil =>
        cases ms with
        | nil => exact rd_make0 C (gl_ok f h3) h4
        | cons m ms => exact absurd h5 (by unfold chkL; exact Bool.false_ne_true)
      | cons e es => exact rd_make C p1 p2 (gl_ok f h3) h4
    · cases h2
  | .meth a mm ms, e, h => by
    unfold chk at h; rw [Bool.and_eq_true] at h
    refine Snd.plain C h.1 ?_
    have h2 := h.2
    split at h2
    · simp only [Bool.and_eq_true, decide_eq_true_eq] at h2
      obtain ⟨rfl, h3, h4, h5, h6, h7⟩ := h2
      obtain ⟨p1, p2, p3⟩ := chkL_ok k X C f ms _ h7
      have s := (chk_ok k X C f false a _ h6).e
      rename_i es _
      cases es with
      | nil =>
        cases ms with
        | nil => exact rd_meth0 C s h3 h4
        | cons m ms => exact absurd h7 (by unfold chkL; exact Bool.false_ne_true)
      | cons e es => exact rd_meth C s p1 p2 h5 h3 h4
    · cases h2
  | .blt _ b ms, e, h => by
    unfold chk at h; rw [Bool.and_eq_true] at h
    refine Snd.plain C h.1 ?_
    have h2 := h.2
    split at h2
    · simp only [Bool.and_eq_true, decide_eq_true_eq, Bool.not_eq_true'] at h2
      obtain ⟨h3, h4, h5, h6⟩ := h2
      obtain ⟨p1, p2, p3⟩ := chkL_ok k X C f ms _ h6
      obtain ⟨b1, b2⟩ := blt_ok f h4
      rename_i es _
      cases es with
      | nil => cases h5
      | cons e es => exact rd_blt C h3 p1 p2 b1 b2
    · cases h2
  | .lrng _ ms, e, h => by
    unfold chk at h; rw [Bool.and_eq_true] at h
    refine Snd.plain C h.1 ?_
    have h2 := h.2
    split at h2
    · simp only [Bool.and_eq_true, decide_eq_true_eq] at h2
      obtain ⟨rfl, rfl, h4, h5, h6, h7⟩ := h2
      obtain ⟨b1, b2⟩ := blt_ok f h4
      obtain ⟨b3, b4⟩ := blt_ok f h5
      obtain ⟨p1, p2, p3⟩ := chkL_ok k X C f ms _ h7
      exact chkR_ok C p3 p2 h6 b1 b2 b3 b4
    · cases h2
  | .bm m a ms, e, h => by
    unfold chk at h; rw [Bool.and_eq_true] at h
    refine Snd.plain C h.1 ?_
    have h2 := h.2
    split at h2
    · simp only [Bool.and_eq_true, decide_eq_true_eq, Bool.or_eq_true] at h2
      obtain ⟨h3, h4, h5, h6, h7, h8, h9⟩ := h2
      have s := (chk_ok k X C f false a _ h8).e
      obtain ⟨p1, p2, p3⟩ := chkL_ok k X C f ms _ h9
      exact chkM_ok C p1 p2 p3 h3 s h4 h5 h6 h7
    · cases h2
  | .isi a T, e, h => by
    unfold chk at h; rw [Bool.and_eq_true] at h
    refine Snd.plain C h.1 ?_
    have h2 := h.2
    split at h2
    · simp only [Bool.and_eq_true, decide_eq_true_eq, List.any_eq_true] at h2
      obtain ⟨rfl, rfl, h3, h4, ⟨q, h5, h5'⟩, h6, h7⟩ := h2
      obtain ⟨b1, b2⟩ := blt_ok f h3
      obtain ⟨b3, b4⟩ := blt_ok f h4
      obtain ⟨q1, q2⟩ := q
      have h5' : q1 = T := h5'
      subst h5'
      exact rd_isi C h5 (chk_ok k X C f false a _ h7).e h6 b1 b2 b3 b4
    · cases h2
  | .comp _ elt tg it ifs, e, h => by
    unfold chk at h; rw [Bool.and_eq_true] at h
    refine Snd.plain C h.1 ?_
    have h2 := h.2
    split at h2
    · simp only [Bool.and_eq_true, decide_eq_true_eq] at h2
      obtain ⟨rfl, h3, h4, h5, h6, h7, h8⟩ := h2
      refine rd_comp C (chkI_ok k X C f it _ h3) (by rw [f.N, f.sc]; exact h5) h4 ?_ ?_ ?_
      · intro s H a cl fp; exact g_ok (C.blk s H _ _ fp) (f.blk _ s H a cl fp) h6
      · intro s H a cl fp; exact chkTs_ok (k.blk _) _ (C.blk s H _ _ fp) (f.blk _ s H a cl fp) ifs _ h7
      · intro s H a cl fp; exact (chk_ok (k.blk _) _ (C.blk s H _ _ fp) (f.blk _ s H a cl fp) false elt _ h8).e
    · cases h2
  | .comp2 _ elt tg it ifs tg1 it1 ifs1, e, h => by
    unfold chk at h; rw [Bool.and_eq_true] at h
    refine Snd.plain C h.1 ?_
    have h2 := h.2
    split at h2
    · simp only [Bool.and_eq_true, decide_eq_true_eq] at h2
      obtain ⟨rfl, rfl, h3, h4, h4', h5, h6, h7, h8, h9, h10, h11⟩ := h2
      refine rd_comp2 C (chkI_ok k X C f it _ h3) (by rw [f.N, f.sc]; exact h5) h4 h4' ?_ ?_ ?_ ?_ ?_ ?_
      · intro s H a cl fp; exact g_ok (C.blk s H _ _ fp) (f.blk _ s H a cl fp) h6
      · intro s H a cl fp; exact chkTs_ok (k.blk _) _ (C.blk s H _ _ fp) (f.blk _ s H a cl fp) ifs _ h7
      · intro s H a cl fp; exact chkI_ok (k.blk _) _ (C.blk s H _ _ fp) (f.blk _ s H a cl fp) it1 _ h8
      · intro s H a cl fp; exact g_ok (C.blk s H _ _ fp) (f.blk _ s H a cl fp) h9
      · intro s H a cl fp; exact chkTs_ok (k.blk _) _ (C.blk s H _ _ fp) (f.blk _ s H a cl fp) ifs1 _ h10
      · intro s H a cl fp; exact (chk_ok (k.blk _) _ (C.blk s H _ _ fp) (f.blk _ s H a cl fp) false elt _ h11).e
    · cases h2
theorem chkL_ok (k : Kx) (X : Cx) (C : CtxOk g X c k.bl k.fl) (f : Fits k X) : ∀ (ms : List Ex) (es : List Expr), chkL k ms es = true → PA X es (RdL g c ms) ∧ es.all notStar = true ∧ PEs g c X es ms
  | [], es, h => by
    unfold chkL at h
    cases es with
    | nil => exact ⟨rd_nil, rfl, trivial⟩
    | cons e es => cases h
  | m :: ms, es, h => by
    unfold chkL at h
    cases es with
    | nil => cases h
    | cons e es =>
      simp only [Bool.and_eq_true] at h
      obtain ⟨p1, p2, p3⟩ := chkL_ok k X C f ms es h.2.2
      have p0 := (chk_ok k X C f false m e h.2.1).e
      exact ⟨rd_cons p0 p1 h.1, by rw [List.all_cons, h.1, p2]; rfl, p0, p3⟩
theorem chkD_ok (k : Kx) (X : Cx) (C : CtxOk g X c k.bl k.fl) (f : Fits k X) (pos : Pos) : ∀ (ms : List Ex) (ks : List (Option Expr)) (vs : List Expr), chkD k ms ks vs = true →
    ∃ es : List (Ex × Ex), ms = flatE es ∧ PPs X pos ks vs (es.map fun p => (RdE g c p.1, RdE g c p.2)) ∧ ks.all (·.isSome) = true ∧ ks.length = vs.length
  | [], ks, vs, h => by
    unfold chkD at h
    cases ks <;> cases vs <;> first | cases h; done | exact ⟨[], rfl, pps_nil, rfl, rfl⟩
  | [_], ks, vs, h => by unfold chkD at h; cases h
  | a :: b :: ms, ks, vs, h => by
    unfold chkD at h
    split at h
    · rename_i e ks fv vs
      simp only [Bool.and_eq_true] at h
      obtain ⟨es, h1, h2, h3, h4⟩ := chkD_ok k X C f pos ms ks vs h.2.2
      refine ⟨(a, b) :: es, by rw [h1]; rfl, pps_cons (chk_ok k X C f false a e h.1).e (chk_ok k X C f false b fv h.2.1).e h2, by rw [List.all_cons, h3]; rfl, by simp [h4]⟩
    · cases h
theorem chkO_ok (k : Kx) (X : Cx) (C : CtxOk g X c k.bl k.fl) (f : Fits k X) : ∀ (m : Option Ex) (e : Option Expr), chkO k m e = true → PO X e (RdO g c m)
  | none, e, h => by
    unfold chkO at h
    cases e with
    | none => exact ro_none
    | some e => cases h
  | some m, e, h => by
    unfold chkO at h
    cases e with
    | none => cases h
    | some e => exact ro_some (chk_ok k X C f false m e h).e
theorem chkTs_ok (k : Kx) (X : Cx) (C : CtxOk g X c k.bl k.fl) (f : Fits k X) : ∀ (ms : List Ex) (es : List Expr), chkTs k ms es = true → PTs X es (RdTs g c ms)
  | [], es, h => by
    unfold chkTs at h
    cases es with
    | nil => exact rts_nil
    | cons e es => cases h
  | [m], es, h => by
    unfold chkTs at h
    match es with
    | [] => cases h
    | [e] => exact rts_one (chk_ok k X C f true m e h).t
    | _ :: _ :: _ => cases h
  | _ :: _ :: _, es, h => by unfold chkTs at h; cases h
theorem chkI_ok (k : Kx) (X : Cx) (C : CtxOk g X c k.bl k.fl) (f : Fits k X) {tg : Expr} : ∀ (m : It) (e : Expr), chkI k m e = true → PI X tg e (RdI g c m)
  | .of m, e, h => by
    unfold chkI at h
    exact rdI_of C (chk_ok k X C f false m e h).e
  | .rng ms, e, h => by
    unfold chkI at h
    split at h
    · simp only [Bool.and_eq_true, decide_eq_true_eq] at h
      obtain ⟨rfl, h1, h2, h3⟩ := h
      obtain ⟨b1, b2⟩ := blt_ok f h1
      obtain ⟨p1, p2, p3⟩ := chkL_ok k X C f ms _ h3
      exact chkRg_ok (tg := tg) C p1 p2 h2 (chkL_len k ms _ h3) b1 b2
    · cases h
  | .rev m, e, h => by
    unfold chkI at h
    split at h
    · simp only [Bool.and_eq_true, decide_eq_true_eq] at h
      obtain ⟨rfl, h1, h2, h3⟩ := h
      obtain ⟨b1, b2⟩ := blt_ok f h1
      exact rdI_rev C b1 b2 (chk_ok k X C f false m _ h3).e h2
    · cases h
end
end
end Mn

end

section
set_option maxHeartbeats 4000000
/-! Mn: the check of statements. -/
namespace Mn
open PySem PySem.Spec PyProof.Rows L2

mutual
def chkA (k : Kx) : Tgt → Expr → Bool
  | .nm i, e => (match e with
    | .Name x _ => k.at i x && k.st x
    | _ => false)
  | .tup ts, e => (match e with
    | .Tuple es _ _ => chkAs k ts es
    | _ => false)
  | .idx o i, e => (match e with
    | .Subscript o' i' _ => notSlice i' && (chk k false o o' && chk k false i i')
    | _ => false)
  | .fld _ _, _ => false
def chkAs (k : Kx) : List Tgt → List Expr → Bool
  | [], es => es.isEmpty
  | t :: ts, es => (match es with
    | e :: es => notStar e && (chkA k t e && chkAs k ts es)
    | [] => false)
end
def locB (sc : Scope) (x : Str) : Bool := decide (sc.names.lookup x = some .local)
/-- a, b = .. stored from the right -/
def chkPar (k : Kx) (t : Tgt) (e : Ex) (tg val : Expr) : Bool := match t, e, tg, val with
  | .tup [.nm i, .nm j], .tup [m, n], .Tuple [.Name x _, .Name y _] _ _, .Tuple [a, b] _ _ =>
    decide (swpB k.sc tg val = some (some [x, y])) && (k.at i x && (k.at j y && (decide (i ≠ j) && (locB k.sc x && (locB k.sc y && chkL k [m, n] [a, b])))))
  | .tup [.nm i, .nm j, .nm l], .tup [m, n, o], .Tuple [.Name x _, .Name y _, .Name z _] _ _, .Tuple [a, b, d] _ _ =>
    decide (swpB k.sc tg val = some (some [x, y, z])) && (k.at i x && (k.at j y && (k.at l z && (decide (i ≠ j ∧ i ≠ l ∧ j ≠ l) && (locB k.sc x && (locB k.sc y && (locB k.sc z && chkL k [m, n, o] [a, b, d])))))))
  | _, _, _, _ => false
/-- name = [..] -/
def swName (k : Kx) (y : Str) (py : Pos) (val : Expr) : Bool := match val with
  | .ListComp _ _ scope pos => swcB k.sc scope y py pos
  | _ => false
def isComp : Ex → Bool
  | .comp _ _ _ _ _ => true
  | .comp2 _ _ _ _ _ _ _ _ => true
  | _ => false
def chkAsg (k : Kx) (t : Tgt) (e : Ex) (tg val : Expr) : Bool := match t, tg with
  | .nm i, .Name x p => k.at i x && (k.st x && ((noComp val || (match val with | .ListComp _ _ _ _ => true | _ => false)) && ((!swName k x p val || (isComp e && locB k.sc x)) && chk k false e val)))
  | .fld o f, .Attribute o' f' _ => decide (f = f') && (k.fl.contains f' && (chk k false o o' && chk k false e val))
  | t, tg => chkPar k t e tg val || (!isName tg && (notStar tg && (decide (swpB k.sc tg val = some none) && (chkA k t tg && chk k false e val))))
def chkAug (k : Kx) (t : Tgt) (o : Op) (e : Ex) (tg : Expr) (op : Operator) (val : Expr) : Bool := decide (op = opOf o) && (decide (o ≠ .pow) && (chk k false e val && (match t, tg with
  | .nm i, .Name x _ => k.at i x && k.st x
  | .fld a f, .Attribute a' f' _ => decide (f = f') && (k.fl.contains f' && chk k false a a')
  | .idx a i, .Subscript a' i' _ => notSlice i' && (chk k false a a' && chk k false i i')
  | _, _ => false)))
mutual
def chkS (k : Kx) : Sm → Stmt → Bool
  | .asg t e, s => (match s with
    | .Assign [tg] val _ => chkAsg k t e tg val
    | _ => false)
  | .aug t o e, s => (match s with
    | .AugAssign tg op val _ => chkAug k t o e tg op val
    | _ => false)
  | .expr m, s => (match s with
    | .Expr e _ => noComp e && chk k false m e
    | _ => false)
  | .ret m, s => (match s with
    | .Return (some e) _ => chk k false m e
    | _ => false)
  | .retN, s => (match s with
    | .Return none _ => true
    | _ => false)
  | .ite m a b, s => (match s with
    | .If e a' b' _ => chk k true m e && (chkB k a a' && chkB k b b')
    | _ => false)
  | .for_ t it b, s => (match s with
    | .For tg e b' [] _ => chkI k it e && (notSet e && (chkG k t tg && chkB k b b'))
    | _ => false)
  | .while_ m b, s => (match s with
    | .While e b' [] _ => chk k true m e && chkB k b b'
    | _ => false)
  | .brk, s => (match s with
    | .Break _ => true
    | _ => false)
  | .cnt, s => (match s with
    | .Continue _ => true
    | _ => false)
  | .bad, _ => true
  | .pass, s => (match s with
    | .Pass _ => true
    | _ => false)
def chkB (k : Kx) : List Sm → List Stmt → Bool
  | [], ss => ss.isEmpty
  | m :: ms, ss => (match ss with
    | s :: ss => chkS k m s && chkB k ms ss
    | [] => false)
end

section
variable {g : Gm} {c : Cf}
mutual
theorem chkA_ok (k : Kx) (X : Cx) (C : CtxOk g X c k.bl k.fl) (f : Fits k X) : ∀ (t : Tgt) (e : Expr), chkA k t e = true → PG X e (RdA g c t)
  | .nm i, e, h => by
    unfold chkA at h
    split at h
    · rw [Bool.and_eq_true] at h
      exact ra_nm C.nd (at_ok f h.1) (st_ok f h.2)
    · cases h
  | .tup ts, e, h => by
    unfold chkA at h
    split at h
    · obtain ⟨h1, h2, h3⟩ := chkAs_ok k X C f ts _ h
      exact ra_tup C h3 h2 h1
    · cases h
  | .idx o i, e, h => by
    unfold chkA at h
    split at h
    · simp only [Bool.and_eq_true] at h
      exact ra_idx C (chk_ok k X C f false o _ h.2.1).e (chk_ok k X C f false i _ h.2.2).e h.1
    · cases h
  | .fld _ _, e, h => by unfold chkA at h; cases h
theorem chkAs_ok (k : Kx) (X : Cx) (C : CtxOk g X c k.bl k.fl) (f : Fits k X) : ∀ (ts : List Tgt) (es : List Expr), chkAs k ts es = true → PGs X es (RdAs g c ts) ∧ es.all notStar = true ∧ es.length = ts.length
  | [], es, h => by
    unfold chkAs at h
    cases es with
    | nil => exact ⟨ras_nil, rfl, rfl⟩
    | cons e es => cases h
  | t :: ts, es, h => by
    unfold chkAs at h
    cases es with
    | nil => cases h
    | cons e es =>
      simp only [Bool.and_eq_true] at h
      obtain ⟨h1, h2, h3⟩ := chkAs_ok k X C f ts es h.2.2
      exact ⟨ras_cons (chkA_ok k X C f t e h.2.1) h1 h.1, by rw [List.all_cons, h.1, h2]; rfl, by simp [h3]⟩
end
theorem chkPar_ok (k : Kx) (X : Cx) (C : CtxOk g X c k.bl k.fl) (f : Fits k X) (hk : X.env.scope.kind = .function) {t : Tgt} {e : Ex} {tg val : Expr} {pos : Pos} (h : chkPar k t e tg val = true) : PS X (.Assign [tg] val pos) (RdS g c (.asg t e)) := by
  unfold chkPar at h
  split at h
  · simp only [Bool.and_eq_true, decide_eq_true_eq, locB] at h
    obtain ⟨h1, h2, h3, h4, h5, h6, h7⟩ := h
    exact rs_par C (at_ok f h2) (at_ok f h3) h4 (by rw [f.sc]; exact h5) (by rw [f.sc]; exact h6) (chkL_ok k X C f _ _ h7).1 (swpB_ok hk (by rw [f.sc]; exact h1))
  · simp only [Bool.and_eq_true, decide_eq_true_eq, locB] at h
    obtain ⟨h1, h2, h3, h3', h4, h5, h6, h6', h7⟩ := h
    exact rs_par3 C (at_ok f h2) (at_ok f h3) (at_ok f h3') h4.1 h4.2.1 h4.2.2 (by rw [f.sc]; exact h5) (by rw [f.sc]; exact h6) (by rw [f.sc]; exact h6') (chkL_ok k X C f _ _ h7).1 (swpB_ok hk (by rw [f.sc]; exact h1))
  · cases h
theorem chkLc_ok (k : Kx) (X : Cx) (C : CtxOk g X c k.bl k.fl) (f : Fits k X) (hk : X.env.scope.kind = .function) {i : Nat} {x : Str} {p : Pos} {e : Ex} {val : Expr} {pos : Pos} (hi : X.N[i]? = some x) (hl : X.env.scope.names.lookup x = some .local) (hc : isComp e = true) (hsw : swName k x p val = true) (h : chk k false e val = true) :
    PS X (.Assign [.Name x p] val pos) (RdS g c (.asg (.nm i) e)) := by
  cases e <;> first | exact Bool.noConfusion hc | skip
  case comp cell elt tg it ifs =>
    unfold chk at h
    rw [Bool.and_eq_true] at h
    have h2 := h.2
    split at h2
    · simp only [Bool.and_eq_true, decide_eq_true_eq] at h2
      obtain ⟨rfl, h3, h4, h5, h6, h7, h8⟩ := h2
      have hsw : swcB k.sc _ x p _ = true := hsw
      refine rs_setLc C hi hl (by rw [swc_ok hk, f.sc, hsw]) (chkI_ok k X C f it _ h3) (by rw [f.N, f.sc]; exact h5) h4 ?_ ?_ ?_
      · intro s H a cl fp; exact g_ok (C.blk s H _ _ fp) (f.blk _ s H a cl fp) h6
      · intro s H a cl fp; exact chkTs_ok (k.blk _) _ (C.blk s H _ _ fp) (f.blk _ s H a cl fp) ifs _ h7
      · intro s H a cl fp; exact (chk_ok (k.blk _) _ (C.blk s H _ _ fp) (f.blk _ s H a cl fp) false elt _ h8).e
    · cases h2
  case comp2 cell elt tg it ifs tg1 it1 ifs1 =>
    unfold chk at h
    rw [Bool.and_eq_true] at h
    have h2 := h.2
    split at h2
    · simp only [Bool.and_eq_true, decide_eq_true_eq] at h2
      obtain ⟨rfl, rfl, h3, h4, h4', h5, h6, h7, h8, h9, h10, h11⟩ := h2
      have hsw : swcB k.sc _ x p _ = true := hsw
      refine rs_setLc2 C hi hl (by rw [swc_ok hk, f.sc, hsw]) (chkI_ok k X C f it _ h3) (by rw [f.N, f.sc]; exact h5) h4 h4' ?_ ?_ ?_ ?_ ?_ ?_
      · intro s H a cl fp; exact g_ok (C.blk s H _ _ fp) (f.blk _ s H a cl fp) h6
      · intro s H a cl fp; exact chkTs_ok (k.blk _) _ (C.blk s H _ _ fp) (f.blk _ s H a cl fp) ifs _ h7
      · intro s H a cl fp; exact chkI_ok (k.blk _) _ (C.blk s H _ _ fp) (f.blk _ s H a cl fp) it1 _ h8
      · intro s H a cl fp; exact g_ok (C.blk s H _ _ fp) (f.blk _ s H a cl fp) h9
      · intro s H a cl fp; exact chkTs_ok (k.blk _) _ (C.blk s H _ _ fp) (f.blk _ s H a cl fp) ifs1 _ h10
      · intro s H a cl fp; exact (chk_ok (k.blk _) _ (C.blk s H _ _ fp) (f.blk _ s H a cl fp) false elt _ h11).e
    · cases h2
theorem chkAsg_ok (k : Kx) (X : Cx) (C : CtxOk g X c k.bl k.fl) (f : Fits k X) (hk : X.env.scope.kind = .function) {t : Tgt} {e : Ex} {tg val : Expr} {pos : Pos} (h : chkAsg k t e tg val = true) : PS X (.Assign [tg] val pos) (RdS g c (.asg t e)) := by
  unfold chkAsg at h
  split at h
  · rename_i i x p
    simp only [Bool.and_eq_true, Bool.or_eq_true, Bool.not_eq_true'] at h
    obtain ⟨h1, h2, h3, h4, h5⟩ := h
    cases hsw : swName k x p val with
    | true =>
      rw [hsw] at h4
      rcases h4 with h4 | h4
      · cases h4
      · simp only [locB, decide_eq_true_eq] at h4
        exact chkLc_ok k X C f hk (at_ok f h1) (by rw [f.sc]; exact h4.2) h4.1 hsw h5
    | false =>
      refine rs_set C (at_ok f h1) (st_ok f h2) (chk_ok k X C f false e _ h5).e ?_
      rcases h3 with h3 | h3
      · exact sw_no h3 _ _ _
      · cases val <;> first | (exact Bool.noConfusion h3) | skip
        have hsw : swcB k.sc _ x p _ = false := hsw
        rw [swc_ok hk, f.sc, hsw]
  · simp only [Bool.and_eq_true, decide_eq_true_eq] at h
    obtain ⟨rfl, h2, h3, h4⟩ := h
    exact rs_fld C (chk_ok k X C f false _ _ h3).e (chk_ok k X C f false e _ h4).e (mem_of_contains h2)
  · rw [Bool.or_eq_true] at h
    rcases h with h | h
    · exact chkPar_ok k X C f hk h
    · simp only [Bool.and_eq_true, decide_eq_true_eq, Bool.not_eq_true'] at h
      obtain ⟨h1, h2, h3, h4, h5⟩ := h
      exact rs_asg (chk_ok k X C f false e _ h5).e (chkA_ok k X C f _ _ h4) h1 h2 (swpB_ok hk (by rw [f.sc]; exact h3))
theorem chkAug_ok (k : Kx) (X : Cx) (C : CtxOk g X c k.bl k.fl) (f : Fits k X) {t : Tgt} {o : Op} {e : Ex} {tg val : Expr} {op : Operator} {pos : Pos} (h : chkAug k t o e tg op val = true) : PS X (.AugAssign tg op val pos) (RdS g c (.aug t o e)) := by
  unfold chkAug at h
  simp only [Bool.and_eq_true, decide_eq_true_eq] at h
  obtain ⟨rfl, h1, h2, h3⟩ := h
  have p := (chk_ok k X C f false e _ h2).e
  split at h3
  · rw [Bool.and_eq_true] at h3
    exact rs_augN C (at_ok f h3.1) (st_ok f h3.2) p h1
  · simp only [Bool.and_eq_true, decide_eq_true_eq] at h3
    obtain ⟨rfl, h4, h5⟩ := h3
    exact rs_augF C (chk_ok k X C f false _ _ h5).e p (mem_of_contains h4) h1
  · simp only [Bool.and_eq_true] at h3
    exact rs_augI C (chk_ok k X C f false _ _ h3.2.1).e (chk_ok k X C f false _ _ h3.2.2).e p h3.1 h1
  · cases h3
mutual
theorem chkS_ok (k : Kx) (X : Cx) (C : CtxOk g X c k.bl k.fl) (f : Fits k X) (hk : X.env.scope.kind = .function) (hp : PassesOwn (model X.prog X.w) X.A X.env X.xe) : ∀ (m : Sm) (s : Stmt), chkS k m s = true → PS X s (RdS g c m)
  | .asg t e, s, h => by
    unfold chkS at h
    split at h
    · exact chkAsg_ok k X C f hk h
    · cases h
  | .aug t o e, s, h => by
    unfold chkS at h
    split at h
    · exact chkAug_ok k X C f h
    · cases h
  | .expr m, s, h => by
    unfold chkS at h
    split at h
    · rw [Bool.and_eq_true] at h
      exact rs_expr (chk_ok k X C f false m _ h.2).e h.1
    · cases h
  | .ret m, s, h => by
    unfold chkS at h
    split at h
    · exact rs_ret (chk_ok k X C f false m _ h).e
    · cases h
  | .retN, s, h => by
    unfold chkS at h
    split at h
    · exact rs_retN
    · cases h
  | .ite m a b, s, h => by
    unfold chkS at h
    split at h
    · simp only [Bool.and_eq_true] at h
      exact rs_if (chk_ok k X C f true m _ h.1).t (chkB_ok k X C f hk hp a _ h.2.1) (chkB_ok k X C f hk hp b _ h.2.2)
    · cases h
  | .for_ t it b, s, h => by
    unfold chkS at h
    split at h
    · simp only [Bool.and_eq_true] at h
      exact rs_for C hp (chkI_ok k X C f it _ h.1) (g_ok C f h.2.2.1) (chkB_ok k X C f hk hp b _ h.2.2.2) h.2.1
    · cases h
  | .while_ m b, s, h => by
    unfold chkS at h
    split at h
    · simp only [Bool.and_eq_true] at h
      exact rs_while C hp (chk_ok k X C f true m _ h.1).t (chkB_ok k X C f hk hp b _ h.2)
    · cases h
  | .brk, s, h => by
    unfold chkS at h
    split at h
    · exact rs_brk
    · cases h
  | .cnt, s, h => by
    unfold chkS at h
    split at h
    · exact rs_cnt
    · cases h
  | .bad, s, h => rs_bad
  | .pass, s, h => by
    unfold chkS at h
    split at h
    · exact rs_pass
    · cases h
theorem chkB_ok (k : Kx) (X : Cx) (C : CtxOk g X c k.bl k.fl) (f : Fits k X) (hk : X.env.scope.kind = .function) (hp : PassesOwn (model X.prog X.w) X.A X.env X.xe) : ∀ (ms : List Sm) (ss : List Stmt), chkB k ms ss = true → PSs X ss (RdB g c ms)
  | [], ss, h => by
    unfold chkB at h
    cases ss with
    | nil => exact rb_nil
    | cons s ss => cases h
  | m :: ms, ss, h => by
    unfold chkB at h
    cases ss with
    | nil => cases h
    | cons s ss =>
      simp only [Bool.and_eq_true] at h
      exact rb_cons (chkS_ok k X C f hk hp m s h.1) (chkB_ok k X C f hk hp ms ss h.2)
end
end
end Mn

end

section
set_option maxHeartbeats 2000000
/-! Mn: from the head's facts to the law. -/
namespace Mn
open PySem PySem.Spec PyProof.Rows L2

/-! ### binding plain parameters -/
theorem lookup_zip {ps : List Str} {us : List Value} {n : Str} (h : n ∈ ps) (hl : us.length = ps.length) : ((ps.zip us).lookup n).isSome = true := by
  induction ps generalizing us with
  | nil => cases h
  | cons p ps ih =>
    cases us with
    | nil => cases hl
    | cons u us =>
      rw [List.zip_cons_cons, List.lookup_cons]
      cases e : n == p with
      | true => rfl
      | false =>
        have h2 : n ∈ ps := by
          rcases List.mem_cons.mp h with h | h
          · subst h; simp at e
          · exact h
        exact ih h2 (by simpa using hl)
theorem fm_congr {α β : Type} {f g : α → Option β} : ∀ {l : List α}, (∀ x ∈ l, f x = g x) → l.filterMap f = l.filterMap g
  | [], _ => rfl
  | x :: l, h => by
    rw [List.filterMap_cons, List.filterMap_cons, h x (List.mem_cons_self ..), fm_congr fun y hy => h y (List.mem_cons_of_mem _ hy)]
theorem zip_self : ∀ {ps : List Str} {us : List Value}, ps.Nodup → us.length = ps.length → ps.filterMap (fun n => ((ps.zip us).lookup n).map (n, ·)) = ps.zip us := by
  intro ps
  induction ps with
  | nil => intro us _ _; rfl
  | cons p ps ih =>
    intro us nd hl
    cases us with
    | nil => cases hl
    | cons u us =>
      rw [List.nodup_cons] at nd
      rw [List.zip_cons_cons, List.filterMap_cons]
      have e1 : List.lookup p ((p, u) :: ps.zip us) = some u := by simp [List.lookup_cons]
      rw [e1]
      show (p, u) :: _ = _
      congr 1
      rw [fm_congr (g := fun n => ((ps.zip us).lookup n).map (n, ·)) fun n hn => ?_]
      · exact ih nd.2 (by simpa using hl)
      · have : (n == p) = false := beq_eq_false_iff_ne.mpr fun e => nd.1 (e ▸ hn)
        rw [List.lookup_cons, this]
structure PlainPs (params : Arguments) (ps : List Str) : Prop where
  po : params.posonlyargs = []
  ar : params.args.map (·.arg) = ps
  va : params.vararg = none
  ko : params.kwonlyargs = []
  ka : params.kwarg = none
theorem bind_plain {params : Arguments} {ps : List Str} (P : PlainPs params ps) (nd : ps.Nodup) {x qual : Str} {body : List Stmt} {scope : Scope} {kV doc pm : Value} {an : Option Addr} {cdv ct : Value} {us : List Value} (hl : us.length = ps.length) :
    bindArgs (PySem.W.fnOf x qual params body scope .none kV doc pm an cdv ct) ⟨us, []⟩ = pure (ps.zip us) := by
  obtain ⟨po, ar, va, ko, kd, ka, df⟩ := params
  obtain ⟨h1, h2, h3, h4, h5⟩ := P
  dsimp only at h1 h2 h3 h4 h5
  subst h1 h2 h3 h4 h5
  generalize hps : ar.map (·.arg) = ps at *
  have hf : ((ps.take ps.length).filter fun n => ((ps.zip us).lookup n).isNone) = [] := by
    rw [List.filter_eq_nil_iff]
    intro n hn
    have := lookup_zip (us := us) (List.mem_of_mem_take hn) hl
    simp [Option.isSome_iff_ne_none.mp this]
  unfold bindArgs PySem.W.fnOf
  dsimp only
  simp only [List.map_nil, List.nil_append, hps, List.forIn_nil, pure_bind, List.append_nil]
  have hz : (seqItems? .none) = pure none := by rfl
  rw [hz]
  simp only [pure_bind, Option.getD_none]
  have hg : decide (us.length > ps.length) = false := decide_eq_false (by omega)
  rw [hg, Bool.false_and, if_neg Bool.false_ne_true]
  have hd : List.drop (([] : List Value).length - ps.length) [] = ([] : List Value) := List.drop_nil
  have hm : (List.filter (fun n => (List.lookup n (ps.zip us)).isNone) (List.take (ps.length - (List.drop (([] : List Value).length - ps.length) ([] : List Value)).length) ps)) = [] := by rw [hd]; exact hf
  have e0 : (#[] : Array Value).toList = [] := rfl
  rw [hm]
  rw [if_neg (by decide)]
  rw [hd, List.zip_nil_right]
  simp only [List.forIn_nil, pure_bind]
  rw [if_neg (by decide), zip_self nd hl]

/-! ### constants of the module -/
mutual
def cstK (K : PySem.W.Frag) : Val → Value → Bool
  | .non, u => (match u with
    | .none => true
    | _ => false)
  | .bl b, u => (match u with
    | .bool c => b == c
    | _ => false)
  | .int i, u => (match u with
    | .int j _ => decide (i = j)
    | _ => false)
  | .str x, u => (match u with
    | .str y _ => decide (x = y)
    | _ => false)
  | .ktup xs, u => (match u with
    | .ref a => (match K.lookup a with
      | some ⟨.type c, _, .seq its _, _⟩ => decide (c = "tuple") && (decide (its.size ≤ sizeLine) && cstKL K xs its.toList)
      | _ => false)
    | _ => false)
  | .klst xs, u => (match u with
    | .ref a => (match K.lookup a with
      | some ⟨.type c, none, .seq its _, _⟩ => decide (c = "list") && (decide (its.size ≤ sizeLine) && cstKL K xs its.toList)
      | _ => false)
    | _ => false)
  | _, _ => false
def cstKL (K : PySem.W.Frag) : List Val → List Value → Bool
  | [], us => us.isEmpty
  | x :: xs, us => (match us with
    | u :: us => cstK K x u && cstKL K xs us
    | [] => false)
end
section
variable {g : Gm}
mutual
theorem cstK_ok : ∀ (v : Val) (u : Value), cstK g.K v u = true → ∃ y, RelV y u ∧ ∀ φ H, Rel g φ H v y
  | .non, u, h => by
    unfold cstK at h
    split at h
    · exact ⟨.non, rfl, fun φ H => by simp [Rel]⟩
    · cases h
  | .bl b, u, h => by
    unfold cstK at h
    split at h
    · have h := eq_of_beq h
      subst h
      exact ⟨.bl b, rfl, fun φ H => by simp [Rel]⟩
    · cases h
  | .int i, u, h => by
    unfold cstK at h
    split at h
    · have h := of_decide_eq_true h
      subst h
      exact ⟨.int i, ⟨_, rfl⟩, fun φ H => by simp [Rel]⟩
    · cases h
  | .str x, u, h => by
    unfold cstK at h
    split at h
    · have h := of_decide_eq_true h
      subst h
      exact ⟨.str x, ⟨_, rfl⟩, fun φ H => by simp [Rel]⟩
    · cases h
  | .ktup xs, u, h => by
    unfold cstK at h
    split at h
    · rename_i a
      split at h
      · rename_i c od its n sl q
        simp only [Bool.and_eq_true, decide_eq_true_eq] at h
        obtain ⟨rfl, h2, h3⟩ := h
        obtain ⟨ys, r1, r2⟩ := cstKL_ok xs _ h3
        exact ⟨.ref a, rfl, fun φ H => by simp only [Rel]; exact ⟨a, ys, rfl, fun H' => .inr ⟨_, its, n, q, rfl, rfl, h2, r1⟩, r2 φ H⟩⟩
      · cases h
    · cases h
  | .klst xs, u, h => by
    unfold cstK at h
    split at h
    · rename_i a
      split at h
      · rename_i c its n sl q
        simp only [Bool.and_eq_true, decide_eq_true_eq] at h
        obtain ⟨rfl, h2, h3⟩ := h
        obtain ⟨ys, r1, r2⟩ := cstKL_ok xs _ h3
        exact ⟨.ref a, rfl, fun φ H => by simp only [Rel]; exact ⟨a, ys, rfl, .inl fun H' => .inr ⟨_, its, n, q, rfl, rfl, rfl, h2, r1⟩, r2 φ H⟩⟩
      · cases h
    · cases h
  | .tup _, u, h => by unfold cstK at h; cases h
  | .lst _, u, h => by unfold cstK at h; cases h
  | .dct _, u, h => by unfold cstK at h; cases h
  | .kdct _, u, h => by unfold cstK at h; cases h
  | .ref _, u, h => by unfold cstK at h; cases h
  | .fn _, u, h => by unfold cstK at h; cases h
theorem cstKL_ok : ∀ (vs : List Val) (us : List Value), cstKL g.K vs us = true → ∃ ys, Vals ys us ∧ ∀ φ H, RelL g φ H vs ys
  | [], us, h => by
    unfold cstKL at h
    cases us with
    | nil => exact ⟨[], .nil, fun φ H => by simp [RelL]⟩
    | cons u us => cases h
  | v :: vs, us, h => by
    unfold cstKL at h
    cases us with
    | nil => cases h
    | cons u us =>
      simp only [Bool.and_eq_true] at h
      obtain ⟨y, r1, r2⟩ := cstK_ok v u h.1
      obtain ⟨ys, r3, r4⟩ := cstKL_ok vs us h.2
      exact ⟨y :: ys, .cons r1 r3, fun φ H => by simp only [RelL]; exact ⟨y, ys, rfl, r2 φ H, r4 φ H⟩⟩
end
end

/-! ### dicts of the module -/
def kdOk (K : PySem.W.Frag) : List (Str × Val) → List DictEntry → Bool
  | [], [] => true
  | (s, v) :: r, e :: es => (match e.key with
    | .str x _ => decide (x = s)
    | _ => false) && (cstK K v e.val && kdOk K r es)
  | _, _ => false
/-- a constant of the module: a dict with text keys, too -/
def cstT (K : PySem.W.Frag) : Val → Value → Bool
  | .kdct kvs, u => (match u with
    | .ref a => (match K.lookup a with
      | some ⟨_, _, .dict es _, _⟩ => decide (kvs.map (·.1)).Nodup && kdOk K kvs es.toList
      | _ => false)
    | _ => false)
  | v, u => cstK K v u
/-- the keys with their hashes, of a dict of the module -/
def tabW (K : PySem.W.Frag) (q : Str × Val) : Option (List (Option (Str × Int))) := match q.2 with
  | .kdct _ => (match PySem.W.nsIn K mainGlobals q.1 with
    | some (some (.ref a)) => He.dicW K a
    | _ => none)
  | _ => none
def tabV (P : Params) (q : Str × Val) : Option (List (Option (Str × Int))) := match q.2 with
  | .kdct kvs => some (He.keysIn P (kvs.map (·.1)))
  | _ => none
section
variable {g : Gm}
theorem kdOk_get : ∀ {kvs : List (Str × Val)} {es : List DictEntry}, kdOk g.K kvs es = true → (kvs.map (·.1)).Nodup → ∀ s : Str,
    (getF kvs s = none → es.find? (·.key.isStr s) = none) ∧ (∀ v, (s, v) ∈ kvs → ∃ e, es.find? (·.key.isStr s) = some e ∧ cstK g.K v e.val = true)
  | [], [], _, _, s => ⟨fun _ => rfl, fun v h => by cases h⟩
  | [], _ :: _, h, _, _ => by cases h
  | _ :: _, [], h, _, _ => by cases h
  | (z, u) :: r, e :: es, h, nd, s => by
    unfold kdOk at h
    rw [Bool.and_eq_true, Bool.and_eq_true] at h
    obtain ⟨h1, h2, h3⟩ := h
    split at h1
    · rename_i x t q
      have h1 := of_decide_eq_true h1
      subst h1
      rw [List.map_cons, List.nodup_cons] at nd
      obtain ⟨i1, i2⟩ := kdOk_get h3 nd.2 s
      have hk : e.key.isStr s = decide (x = s) := by
        rw [q]
        by_cases z : x = s
        · subst z; simp [Value.isStr]
        · simp [Value.isStr, z]
      by_cases z : x = s
      · subst z
        refine ⟨fun hn => ?_, fun v hv => ?_⟩
        · simp [getF] at hn
        · rcases List.mem_cons.mp hv with hv | hv
          · cases hv
            exact ⟨e, by rw [List.find?_cons, hk]; simp, h2⟩
          · exact absurd (List.mem_map_of_mem (f := (·.1)) hv) nd.1
      · have hk : e.key.isStr s = false := by rw [hk]; simp [z]
        refine ⟨fun hn => ?_, fun v hv => ?_⟩
        · rw [List.find?_cons, hk]
          unfold getF at hn
          rw [if_neg z] at hn
          exact i1 hn
        · rcases List.mem_cons.mp hv with hv | hv
          · cases hv; exact absurd rfl z
          · obtain ⟨e', h4, h5⟩ := i2 v hv
            exact ⟨e', by rw [List.find?_cons, hk]; exact h4, h5⟩
    · cases h1
theorem kdOk_ref : ∀ {kvs : List (Str × Val)} {es : List DictEntry}, kdOk g.K kvs es = true → es.any (·.refKey) = false
  | [], [], _ => rfl
  | [], _ :: _, h => by cases h
  | _ :: _, [], h => by cases h
  | (z, u) :: r, e :: es, h => by
    unfold kdOk at h
    rw [Bool.and_eq_true, Bool.and_eq_true] at h
    obtain ⟨h1, h2, h3⟩ := h
    rw [List.any_cons, kdOk_ref h3, Bool.or_false]
    split at h1
    · rename_i x t q
      unfold DictEntry.refKey
      rw [q]
    · cases h1
theorem relK_of {φ : Fm} {H : Hp} {a : Addr} {kvs : List (Str × Val)} (h : ∀ q ∈ kvs, ∃ u, PySem.W.nsIn g.K a q.1 = some (some u) ∧ cstK g.K q.2 u = true) : RelK g φ H a kvs := by
  induction kvs with
  | nil => simp [RelK]
  | cons q r ih =>
    obtain ⟨s, v⟩ := q
    simp only [RelK]
    refine ⟨?_, ih fun q hq => h q (List.mem_cons_of_mem _ hq)⟩
    obtain ⟨u, h1, h2⟩ := h (s, v) (List.mem_cons_self ..)
    obtain ⟨y, r1, r2⟩ := cstK_ok v u h2
    exact ⟨u, y, h1, r1, r2 φ H⟩
theorem cstT_ok {x : Str} : ∀ (v : Val) (u : Value), PySem.W.nsIn g.K mainGlobals x = some (some u) → cstT g.K v u = true → tabW g.K (x, v) = tabV g.w.params (x, v) → ∃ y, RelV y u ∧ ∀ φ H, Rel g φ H v y := by
  intro v u hx h ht
  cases v with
  | kdct kvs =>
    have ht : (match PySem.W.nsIn g.K mainGlobals x with
      | some (some (.ref a)) => He.dicW g.K a
      | _ => none) = some (He.keysIn g.w.params (kvs.map (·.1))) := ht
    rw [hx] at ht
    unfold cstT at h
    dsimp only at h
    split at h
    · rename_i a
      have ht : He.dicW g.K a = some (He.keysIn g.w.params (kvs.map (·.1))) := ht
      obtain ⟨es, n, D⟩ := He.dicW_ok (w := g.w) ht
      rw [D.at_] at h
      dsimp only at h
      rw [Bool.and_eq_true, decide_eq_true_eq] at h
      refine ⟨.ref a, rfl, fun φ H => ?_⟩
      simp only [Rel]
      have hns : ∀ s : Str, PySem.W.nsIn g.K a s = (match es.toList.find? (·.key.isStr s) with
          | some e => some (some e.val)
          | none => some none) := by
        intro s
        unfold PySem.W.nsIn
        rw [D.at_]
        dsimp only
        rw [kdOk_ref h.2]
        rfl
      refine ⟨a, rfl, ⟨es, n, D⟩, fun s hs => ?_, relK_of fun q hq => ?_⟩
      · rw [hns, (kdOk_get h.2 h.1 s).1 hs]
      · obtain ⟨e, h1, h2⟩ := (kdOk_get h.2 h.1 q.1).2 q.2 hq
        exact ⟨e.val, by rw [hns, h1], h2⟩
    · cases h
  | _ => exact cstK_ok _ u h
end

/-! ### what a law's text says -/
structure Df where
  C : Str
  f : Str
  qual : Str
  st : Stmt
  N : List Str
  ps : List Str
  F : Fn
def Df.dd (d : Df) : He.DefD := ⟨if d.C = Str.ofString "" then (d.f, none) else (d.C, some d.f), if d.C = Str.ofString "" then d.qual else d.f, d.qual, defArgs d.st, defBody d.st, defScope d.st, [], []⟩
structure Lw where
  defs : List Df
  cls : List Str
  bl : List Str
  fl : List Str
  cst : List (Str × Val)
def Lw.D (L : Lw) : Defs := L.defs.map fun d => ((d.C, d.f), d.F)
def Lw.G (L : Lw) (x : Str) : Option Val := getF L.cst x
def Lw.has (L : Lw) (C f : Str) : Bool := L.defs.any fun d => decide (d.C = C) && decide (d.f = f)
/-- what is looked at behind the top -/
def Lw.ok (L : Lw) (K : PySem.W.Frag) : Bool :=
  (L.defs.all fun d => d.dd.ok K && (if d.C = Str.ofString "" then (He.Fa.glo d.f).ok K else (He.Fa.meth d.C d.f).ok K)) &&
  ((L.cls.all fun C => (He.Fa.glo C).ok K && ((He.Fa.cls C).ok K && ((!L.has C "__init__" || (He.Fa.mkr C).ok K) && L.fl.all fun f => (He.Fa.noat C f).ok K))) &&
  ((L.bl.all fun x => (He.Fa.free x).ok K) && L.cst.all fun q => match PySem.W.nsIn K mainGlobals q.1 with
    | some (some u) => cstT K q.2 u
    | _ => false))
abbrev AlL : Type := Bool × List He.FnW × List (Option (List (Option (Str × Int))))
def Lw.obs (L : Lw) (K : PySem.W.Frag) : AlL := (L.ok K, L.defs.map (fun d => He.fnW K d.dd.at_), L.cst.map (tabW K))
def Lw.val (L : Lw) (w : World) : AlL := (true, L.defs.map (fun d => d.dd.val), L.cst.map (tabV w.params))
def refsAt (g : Addr → Option PySem.Obj) (a : Addr) : List Addr := match g a with
  | some o => He.refsO o
  | none => []
def reach (g : Addr → Option PySem.Obj) : Nat → List Addr → List Addr
  | 0, fr => fr
  | n + 1, fr => fr ++ reach g n (fr.flatMap (refsAt g))
def Lw.obsG (L : Lw) (n : Nat) (g : Addr → Option PySem.Obj) : AlL := L.obs (He.frG g (reach g n [mainGlobals]))
def Lw.hook (L : Lw) (n : Nat) : PySem.W.Hook where
  α := AlL
  obs := fun s => L.obsG n s.heap.get?
  val := fun w => L.val w
  says := fun w h => ∃ K : PySem.W.Frag, K.In h ∧ L.obs K = L.val w
  of := fun _ _ e => ⟨_, He.frG_in, e⟩
  keeps := fun _ _ _ ⟨K, hK, c⟩ k => ⟨K, PySem.W.Frag.In.keeps hK k, c⟩
theorem Lw.obsG_eq (L : Lw) {n : Nat} {g : Addr → Option PySem.Obj} {s : Shared} (h : ∀ a, g a = s.heap.get? a) : L.obsG n g = (L.hook n).obs s := by
  have e : g = s.heap.get? := funext h
  rw [e] <;> rfl
/-- what is checked of the texts alone -/
def Df.fits (d : Df) (bl fl : List Str) : Bool :=
  (match (defScope d.st).kind with | .function => true | _ => false) && (!(defScope d.st).isCoroutine && (!(defScope d.st).isGenerator && (decide d.N.Nodup && (decide (d.N.take d.ps.length = d.ps) && ((d.ps.all fun x => match (defScope d.st).names.lookup x with | some .local => true | some .cell => true | _ => false) &&
  (((defScope d.st).names.all fun y => match y.2 with | .free => false | _ => true) && (decide (d.N.length = d.F.n) && (decide (d.ps.length = d.F.np) && (d.F.dfl.isEmpty && ((defArgs d.st).posonlyargs.isEmpty && (decide ((defArgs d.st).args.map (·.arg) = d.ps) && ((defArgs d.st).vararg.isNone &&
  ((defArgs d.st).kwonlyargs.isEmpty && ((defArgs d.st).kwarg.isNone && chkB ⟨d.N, defScope d.st, fun _ => true, bl, fl⟩ d.F.body (defBody d.st)))))))))))))))
def Lw.fits (L : Lw) : Bool := (L.defs.all fun d => decide (d.C = Str.ofString "") || L.cls.contains d.C) && (L.cls.all fun C => !decide (C = Str.ofString "")) 
def Lw.fitsAll (L : Lw) : Prop := ∀ d ∈ L.defs, d.fits L.bl L.fl = true
def Lw.gm (L : Lw) (K : PySem.W.Frag) (w : World) : Gm := ⟨K, w, fun C => if L.cls.contains C then some (He.ga K C) else none, fun f => some (He.ga K f)⟩
theorem findFn_mem {L : Lw} {C f : Str} {F : Fn} (h : findFn L.D C f = some F) : ∃ d ∈ L.defs, d.C = C ∧ d.f = f ∧ d.F = F := by
  unfold Lw.D at h
  generalize L.defs = ds at h
  induction ds with
  | nil => cases h
  | cons d ds ih =>
    rw [List.map_cons] at h
    unfold findFn at h
    split at h
    · rename_i e
      cases h
      exact ⟨d, List.mem_cons_self .., e.1.symm, e.2.symm, rfl⟩
    · obtain ⟨d', h1, h2⟩ := ih h
      exact ⟨d', List.mem_cons_of_mem _ h1, h2⟩
theorem getF_mem {x : Str} {v : Val} : ∀ {l : List (Str × Val)}, getF l x = some v → (x, v) ∈ l
  | [], h => by cases h
  | (y, u) :: r, h => by
    unfold getF at h
    split at h
    · rename_i e; cases h; subst e; exact List.mem_cons_self ..
    · exact List.mem_cons_of_mem _ (getF_mem h)
section
variable {L : Lw} {K : PySem.W.Frag} {w : World} {h : Heap} {mg : Str → Option Value}
theorem fn_lk (e : L.obs K = L.val w) {d : Df} (hd : d ∈ L.defs) : He.fnW K d.dd.at_ = d.dd.val := by
  have e2 : L.defs.map (fun d => He.fnW K d.dd.at_) = L.defs.map fun d => d.dd.val := congrArg (fun z : AlL => z.2.1) e
  obtain ⟨i, hi, rfl⟩ := List.mem_iff_getElem.mp hd
  have e3 : (L.defs.map fun d => He.fnW K d.dd.at_)[i]? = (L.defs.map fun d => d.dd.val)[i]? := by rw [e2]
  rw [List.getElem?_map, List.getElem?_map, List.getElem?_eq_getElem hi] at e3
  exact Option.some.inj e3
theorem defAt_of (hfit : L.fitsAll) (e : L.obs K = L.val w) {P : Program} {base : Heap} {d : Df} (hd : d ∈ L.defs) : ∃ fd, DefAt (L.gm K w) P mg base L.bl L.fl d.F (He.fAd K d.dd.at_) fd d.ps ∧ PySem.W.keepIn K (.ref (He.fAd K d.dd.at_)) = true ∧ ∀ (s : Shared) (us : List Value), us.length = d.ps.length → BindsTo s fd ⟨us, []⟩ (d.ps.zip us) := by
  have hok : L.ok K = true := congrArg (fun z : AlL => z.1) e
  unfold Lw.ok at hok
  simp only [Bool.and_eq_true] at hok
  have h1 := List.all_eq_true.mp hok.1 d hd
  rw [Bool.and_eq_true] at h1
  obtain ⟨fd, hfd⟩ := He.DefD.funD (fn_lk e hd) h1.1
  have hf := hfit d hd
  unfold Df.fits at hf
  simp only [Bool.and_eq_true, decide_eq_true_eq, Bool.not_eq_true', List.isEmpty_iff, Option.isNone_iff_eq_none] at hf
  obtain ⟨c1, c2, c3, c4, c5, c6, c7, c8, c9, c10, c11, c12, c13, c14, c15, c16⟩ := hf
  have hkind : (defScope d.st).kind = .function := by
    split at c1
    · assumption
    · cases c1
  have hpar : ∀ x ∈ d.ps, (defScope d.st).names.lookup x = some .local ∨ (defScope d.st).names.lookup x = some .cell := by
    intro x hx
    have := List.all_eq_true.mp c6 x hx
    split at this
    · exact .inl (by assumption)
    · exact .inr (by assumption)
    · cases this
  have hfree : ∀ y ∈ (defScope d.st).names, y.2 ≠ .free := by
    intro y hy z
    have := List.all_eq_true.mp c7 y hy
    rw [z] at this
    cases this
  have hsc : FnScope d.N d.ps (defScope d.st) := ⟨hkind, c2, c3, c4, c5, hpar, hfree⟩
  have hps : d.ps.Nodup := by rw [← c5]; exact c4.sublist (List.take_sublist _ _)
  refine ⟨fd, ⟨⟨d.N, d.dd.name, d.qual, defArgs d.st, defBody d.st, defScope d.st, [], [], hfd, hsc, c8, fun X c C hN hS hfn hp => ?_⟩, c9, ?_, fun hne => absurd c10 hne⟩, (by have := h1.1; unfold He.DefD.ok at this; exact (He.ba this).1), fun s us hl => hfd.bindsA (fun kV doc pm an cdv ct us hl => bind_plain ⟨c11, c12, c13, c14, c15⟩ hps hl) s us hl⟩
  · exact chkB_ok ⟨d.N, defScope d.st, fun _ => true, L.bl, L.fl⟩ X C ⟨hN, hS, fun x _ => hfn x⟩ (by rw [hS]; exact hkind) hp d.F.body _ c16
  · exact hfd.bindsN fun kV doc pm an cdv ct us hl => bind_plain ⟨c11, c12, c13, c14, c15⟩ hps hl
theorem whole_of (hfit : L.fitsAll) (hst : L.fits = true) (In : K.In h) (G : h.Ns mainGlobals mg) (e : L.obs K = L.val w) (P : Program) (base : Heap) : Whole (L.gm K w) P mg base L.bl L.fl L.D L.G := by
  have hok : L.ok K = true := congrArg (fun z : AlL => z.1) e
  have hok2 := hok
  unfold Lw.ok at hok2
  simp only [Bool.and_eq_true] at hok2
  obtain ⟨k1, k2, k3, k4⟩ := hok2
  unfold Lw.fits at hst
  simp only [Bool.and_eq_true] at hst
  obtain ⟨s1, s2⟩ := hst
  have clsf : ∀ C, C ∈ L.cls → (He.Fa.glo C).ok K = true ∧ (He.Fa.cls C).ok K = true ∧ (!L.has C "__init__" || (He.Fa.mkr C).ok K) = true ∧ ∀ f ∈ L.fl, (He.Fa.noat C f).ok K = true := fun C hC => by
    have := List.all_eq_true.mp k2 C hC
    simp only [Bool.and_eq_true] at this
    exact ⟨this.1, this.2.1, this.2.2.1, fun f hf => List.all_eq_true.mp this.2.2.2 f hf⟩
  have mem_cls : ∀ d ∈ L.defs, d.C ≠ Str.ofString "" → d.C ∈ L.cls := fun d hd hne => by
    have := List.all_eq_true.mp s1 d hd
    rw [Bool.or_eq_true, decide_eq_true_eq] at this
    rcases this with t | t
    · exact absurd t hne
    · exact List.contains_iff_mem.mp t
  refine ⟨fun f F hF => ?_, fun C m F hF hC hm => ?_, fun C F hF hC => ?_, fun x v hv => ?_, fun x hx => ?_, fun C A f hA hf => ?_⟩
  · obtain ⟨d, hd, dC, df, dF⟩ := findFn_mem hF
    subst df dF
    obtain ⟨fd, h1, h2, _⟩ := defAt_of (w := w) (mg := mg) (P := P) (base := base) hfit e hd
    have h3 := List.all_eq_true.mp k1 d hd
    rw [Bool.and_eq_true, if_pos dC] at h3
    have ea : He.fAd K d.dd.at_ = He.ga K d.f := by unfold Df.dd; rw [if_pos dC]; rfl
    rw [ea] at h1 h2
    exact ⟨_, fd, d.ps, h1, He.glo_ok In G h3.2, h2⟩
  · obtain ⟨d, hd, dC, df, dF⟩ := findFn_mem hF
    subst dC df dF
    obtain ⟨fd, h1, h2, _⟩ := defAt_of (w := w) (mg := mg) (P := P) (base := base) hfit e hd
    have h3 := List.all_eq_true.mp k1 d hd
    rw [Bool.and_eq_true, if_neg hC] at h3
    have ea : He.fAd K d.dd.at_ = He.ma K (He.ga K d.C) d.f := by unfold Df.dd; rw [if_neg hC]; rfl
    rw [ea] at h1
    have hc := mem_cls d hd hC
    exact ⟨_, _, fd, d.ps, h1, by unfold Lw.gm; dsimp only; rw [if_pos (List.contains_iff_mem.mpr hc)], He.cls_ok (clsf _ hc).2.1, He.meth_ok h3.2⟩
  · obtain ⟨d, hd, dC, df, dF⟩ := findFn_mem hF
    subst dC dF
    obtain ⟨fd, h1, h2, _⟩ := defAt_of (w := w) (mg := mg) (P := P) (base := base) hfit e hd
    have ea : He.fAd K d.dd.at_ = He.ma K (He.ga K d.C) "__init__" := by unfold Df.dd; rw [if_neg hC, df]; rfl
    rw [ea] at h1
    have hc := mem_cls d hd hC
    have hm := (clsf _ hc).2.2.1
    have hhas : L.has d.C "__init__" = true := List.any_eq_true.mpr ⟨d, hd, by rw [Bool.and_eq_true, decide_eq_true_eq, decide_eq_true_eq]; exact ⟨rfl, df⟩⟩
    rw [hhas] at hm
    exact ⟨_, _, fd, d.ps, h1, by unfold Lw.gm; dsimp only; rw [if_pos (List.contains_iff_mem.mpr hc)], He.glo_ok In G (clsf _ hc).1, He.mkr_ok hm⟩
  · have h3 := List.all_eq_true.mp k4 (x, v) (getF_mem hv)
    dsimp only at h3
    split at h3
    · rename_i u q
      have ht : L.cst.map (tabW K) = L.cst.map (tabV w.params) := congrArg (fun z : AlL => z.2.2) e
      obtain ⟨i, hi, hi2⟩ := List.mem_iff_getElem.mp (getF_mem hv)
      have ht2 : (L.cst.map (tabW K))[i]? = (L.cst.map (tabV w.params))[i]? := by rw [ht]
      rw [List.getElem?_map, List.getElem?_map, List.getElem?_eq_getElem hi, hi2] at ht2
      obtain ⟨y, r1, r2⟩ := cstT_ok (g := L.gm K w) (x := x) v u q h3 (Option.some.inj ht2)
      exact ⟨u, y, PySem.W.mg_of In G q, r1, r2⟩
    · cases h3
  · exact He.free_ok In G (List.all_eq_true.mp k3 x hx)
  · unfold Lw.gm at hA
    dsimp only at hA
    split at hA
    · rename_i hc
      cases hA
      have hc := clsf C (List.contains_iff_mem.mp hc)
      exact ⟨He.cls_ok hc.2.1, He.noat_ok (hc.2.2.2 f hf)⟩
    · cases hA
theorem mn_walk {l : PySem.W.OpenLaw} {n k m : Nat} {q : Program} {loose : List Str} {XP : (Str → Option Value) → Heap → Prop} {d : DefRec} (L : Lw) {dl : Df} {x : Str} (hn : l.most = some n) (hn2 : n ≤ sizeLine) (hdf : d.params.defaults = []) (hname : d.name = "law") (hr : Room k callerA)
    (hfit : L.fitsAll) (hst : L.fits = true) (hdl : dl ∈ L.defs) (hC : dl.C = Str.ofString "") (hf : dl.f = "law") (hps : dl.ps = [x]) (hfind : findFn L.D (Str.ofString "") "law" = some dl.F)
    (plain : ∀ ns : List Int, ns.length ≤ n → ∃ st, callFn L.D L.G k (Str.ofString "") "law" [.klst (ns.map Val.int)] [] = .ok (.bl true) st) :
    PySem.W.WalkO q loose XP (L.hook m).says l.row.toRowW d [] (fun f vs => PySem.call f vs) := by
  refine walk_ofE (l := l) (n := n) (k := k) (x := x) (CX := CX0) hn hn2 hdf hr ?_ (fun _ _ _ _ z => z)
  intro w mg fa h Y G hmg
  obtain ⟨K, KX, e⟩ := Y
  rw [hname] at hmg
  have h0 := defAt_of (w := w) (mg := mg) (P := l.prog) (base := h) hfit e hdl
  obtain ⟨fd, _, _, hb⟩ := h0
  have ea : He.fAd K dl.dd.at_ = He.ga K "law" := by unfold Df.dd; rw [if_pos hC, hf]; rfl
  have W0 := whole_of (w := w) (mg := mg) hfit hst KX G e l.prog h
  obtain ⟨fa', fd', ps', hD', hg', hk'⟩ := W0.fn "law" dl.F hfind
  rw [hmg] at hg'
  cases hg'
  have hfa : fa = He.ga K "law" := by
    have hok : L.ok K = true := congrArg (fun z : AlL => z.1) e
    unfold Lw.ok at hok
    simp only [Bool.and_eq_true] at hok
    have h3 := List.all_eq_true.mp hok.1 dl hdl
    rw [Bool.and_eq_true, if_pos hC, hf] at h3
    have := He.glo_ok KX G h3.2
    rw [hmg] at this
    cases this
    rfl
  subst hfa
  obtain ⟨fd2, hd2, _, hb2⟩ := defAt_of (w := w) (mg := mg) (P := l.prog) (base := h) hfit e hdl
  refine ⟨K, fd2, spF (L.gm K w) L.D L.G dl.F k (Str.ofString "") "law", KX, fun s u => ?_, fun H a ns hl hO hS => ?_, fun base hKb hGb => ?_⟩
  · have := hb2 s [u] (by rw [hps]; rfl)
    rw [hps] at this
    exact this
  · obtain ⟨st, hst2⟩ := plain ns hl
    have hnp : dl.F.np = 1 := by rw [← hd2.np, hps]; rfl
    refine ⟨⟨[], []⟩, [], [.klst (ns.map Val.int)], .bl true, st, ⟨rfl, List.nodup_nil, fun i a o e1 e2 => by simp at e1, fun a m => by simp at m, fun a m => by simp at m⟩, ?_, by rw [hnp]; rfl, hst2, fun φ' H' x _ _ r => by simpa [Rel] using r⟩
    refine RelL.one ?_
    simp only [Rel]
    refine ⟨a, ns.map V.int, rfl, ?_, RelL.ints⟩
    rcases hS with (hS | ⟨o, hS⟩) | hS
    · rcases hO a with z | ⟨o, xs, z⟩
      · rw [z] at hS; cases hS
      · rw [z] at hS; cases hS
    · exact .inr ⟨Fm.not_mem' (by simp) (by simp), o, hS⟩
    · exact .inl fun H' => .inr hS
  · have W1 := whole_of (w := w) (mg := mg) hfit hst KX G e l.prog base
    obtain ⟨fd3, hd3, _, _⟩ := defAt_of (w := w) (mg := mg) (P := l.prog) (base := base) hfit e hdl
    have hfd : fd3 = fd2 := by
      obtain ⟨N1, x1, q1, p1, b1, s1, d1, k1, f1, _⟩ := hd2.ex
      obtain ⟨N2, x2, q2, p2, b2, s2, d2, k2, f2, _⟩ := hd3.ex
      obtain ⟨oc, od, dV, kV, doc, pm, an, cdv, ct, osl, e1, lk1, _⟩ := f1.ex
      obtain ⟨oc', od', dV', kV', doc', pm', an', cdv', ct', osl', e1', lk2, _⟩ := f2.ex
      rw [lk1] at lk2
      have := Option.some.inj lk2
      injection this with i1 i2 i3 i4
      injection i3 with i3
      exact i3.symm
    subst hfd
    have := Mn.fn_ok W1 k (Str.ofString "") "law" dl.F _ fd3 dl.ps hfind hd3
    rw [ea, hps] at this
    exact this
end
end Mn

end

section
set_option maxHeartbeats 1000000
/-! Mn: what a mini text does, step by step. -/
namespace Mn
open PySem

def wp {α : Type} (m : M α) (st : Store) (Q : α → Store → Prop) : Prop := ∃ a st', m st = .ok a st' ∧ Q a st'
section
variable {α β : Type} {st : Store} {c : Cf} {ρ : Env}
theorem wp_mono {m : M α} {Q Q' : α → Store → Prop} (h : wp m st Q) (k : ∀ a st, Q a st → Q' a st) : wp m st Q' := let ⟨a, s, e, q⟩ := h; ⟨a, s, e, k a s q⟩
theorem wp_bind {m : M α} {f : α → M β} {Q : β → Store → Prop} : wp (m >>= f) st Q ↔ wp m st fun a s => wp (f a) s Q := by
  constructor
  · rintro ⟨b, s, e, q⟩
    obtain ⟨a, s1, e1, e2⟩ := bind_ok e
    exact ⟨a, s1, e1, b, s, e2, q⟩
  · rintro ⟨a, s1, e1, b, s, e2, q⟩
    exact ⟨b, s, (bind_eq e1).trans e2, q⟩
theorem wp_pure {a : α} {Q : α → Store → Prop} : wp (pure a) st Q ↔ Q a st := ⟨fun ⟨b, s, e, q⟩ => by obtain ⟨rfl, rfl⟩ := pure_ok e; exact q, fun q => ⟨a, st, rfl, q⟩⟩
theorem wp_lift {o : Option α} {Q : α → Store → Prop} : wp (lift o) st Q ↔ ∃ a, o = some a ∧ Q a st := ⟨fun ⟨b, s, e, q⟩ => by obtain ⟨h, rfl⟩ := lift_ok e; exact ⟨b, h, q⟩, fun ⟨a, h, q⟩ => ⟨a, st, by rw [h]; rfl, q⟩⟩
theorem wp_look {f : Store → Option α} {Q : α → Store → Prop} : wp (look f) st Q ↔ ∃ a, f st = some a ∧ Q a st := ⟨fun ⟨b, s, e, q⟩ => by obtain ⟨h, rfl⟩ := look_ok e; exact ⟨b, h, q⟩, fun ⟨a, h, q⟩ => ⟨a, st, look_eq h, q⟩⟩
theorem wp_guard {b : Bool} {Q : Unit → Store → Prop} : wp (guardM b) st Q ↔ b = true ∧ Q () st := ⟨fun ⟨u, s, e, q⟩ => by obtain ⟨h, rfl⟩ := guard_ok e; exact ⟨h, q⟩, fun ⟨h, q⟩ => ⟨(), st, by rw [h]; rfl, q⟩⟩
theorem wp_lenOk {n : Nat} {Q : Unit → Store → Prop} : wp (lenOk n) st Q ↔ n ≤ sizeLine ∧ Q () st := by unfold lenOk; rw [wp_guard, decide_eq_true_eq]
theorem wp_write {i : Nat} {o : Obj} {Q : Unit → Store → Prop} : wp (write i o) st Q ↔ Q () (st.set i o) := ⟨fun ⟨u, s, e, q⟩ => by
  have e : Res.ok () (st.set i o) = .ok u s := e
  cases e; exact q, fun q => ⟨(), _, rfl, q⟩⟩
theorem wp_alloc {o : Obj} {Q : Val → Store → Prop} : wp (alloc o) st Q ↔ Q (.ref st.length) (st ++ [o]) := ⟨fun ⟨u, s, e, q⟩ => by
  have e : Res.ok (Val.ref st.length) (st ++ [o]) = .ok u s := e
  cases e; exact q, fun q => ⟨_, _, rfl, q⟩⟩
theorem wp_mkF {xs : List Val} {Q : Val → Store → Prop} : wp (mkLst false xs) st Q ↔ Q (.lst xs) st := wp_pure
theorem wp_mkT {xs : List Val} {Q : Val → Store → Prop} : wp (mkLst true xs) st Q ↔ Q (.ref st.length) (st ++ [.lst xs]) := wp_alloc
theorem wp_still {w : Walked} {Q : Unit → Store → Prop} : wp (stillM w) st Q ↔ w.still st = true ∧ Q () st := ⟨fun ⟨u, s, e, q⟩ => by obtain ⟨h, rfl⟩ := still_ok e; exact ⟨h, q⟩, fun ⟨h, q⟩ => ⟨(), st, by unfold stillM; rw [h], q⟩⟩
/-! ### expressions -/
theorem wp_var {i : Nat} {Q : Val → Store → Prop} : wp (evalE c (.var i) ρ) st Q ↔ ∃ v, getVar ρ i = some v ∧ Q v st := wp_lift
theorem wp_cint {v : Int} {Q : Val → Store → Prop} : wp (evalE c (.cst (.int v)) ρ) st Q ↔ Q (.int v) st := wp_pure
theorem wp_cstr {v : Str} {Q : Val → Store → Prop} : wp (evalE c (.cst (.str v)) ρ) st Q ↔ Q (.str v) st := wp_pure
theorem wp_cbl {v : Bool} {Q : Val → Store → Prop} : wp (evalE c (.cst (.bl v)) ρ) st Q ↔ Q (.bl v) st := wp_pure
theorem wp_cnon {Q : Val → Store → Prop} : wp (evalE c (.cst .non) ρ) st Q ↔ Q .non st := wp_pure
theorem wp_glo {x : Str} {Q : Val → Store → Prop} : wp (evalE c (.glo x) ρ) st Q ↔ ∃ v, c.glob x = some v ∧ Q v st := wp_lift
theorem wp_nil {Q : List Val → Store → Prop} : wp (evalL c [] ρ) st Q ↔ Q [] st := wp_pure
theorem wp_cons {m : Ex} {ms : List Ex} {Q : List Val → Store → Prop} : wp (evalL c (m :: ms) ρ) st Q ↔ wp (evalE c m ρ) st fun v s => wp (evalL c ms ρ) s fun vs s => Q (v :: vs) s := by
  rw [show evalL c (m :: ms) ρ = (do let v ← evalE c m ρ; let vs ← evalL c ms ρ; pure (v :: vs)) from rfl]
  simp only [wp_bind, wp_pure]
theorem wp_tup {ms : List Ex} {Q : Val → Store → Prop} : wp (evalE c (.tup ms) ρ) st Q ↔ wp (evalL c ms ρ) st fun vs s => vs.length ≤ sizeLine ∧ Q (.tup vs) s := by
  rw [show evalE c (.tup ms) ρ = (do let vs ← evalL c ms ρ; lenOk vs.length; pure (.tup vs)) from rfl]
  simp only [wp_bind, wp_pure, wp_lenOk]
theorem wp_lst {b : Bool} {ms : List Ex} {Q : Val → Store → Prop} : wp (evalE c (.lst b ms) ρ) st Q ↔ wp (evalL c ms ρ) st fun vs s => vs.length ≤ sizeLine ∧ wp (mkLst b vs) s Q := by
  rw [show evalE c (.lst b ms) ρ = (do let vs ← evalL c ms ρ; lenOk vs.length; mkLst b vs) from rfl]
  simp only [wp_bind, wp_lenOk]
theorem wp_bin {o : Op} {a b : Ex} {Q : Val → Store → Prop} : wp (evalE c (.bin o a b) ρ) st Q ↔ wp (evalE c a ρ) st fun x s => wp (evalE c b ρ) s fun y s => ∃ v, binop o x y s = some v ∧ Q v s := by
  rw [show evalE c (.bin o a b) ρ = (do let x ← evalE c a ρ; let y ← evalE c b ρ; look (binop o x y)) from rfl]
  simp only [wp_bind, wp_look]
theorem wp_neg {a : Ex} {Q : Val → Store → Prop} : wp (evalE c (.neg a) ρ) st Q ↔ wp (evalE c a ρ) st fun x s => ∃ i, x = .int i ∧ Q (.int (-i)) s := by
  rw [show evalE c (.neg a) ρ = (do let x ← evalE c a ρ; (match x with | .int i => pure (.int (-i)) | _ => bad)) from rfl]
  simp only [wp_bind]
  constructor
  · rintro ⟨x, s, e, q⟩
    refine ⟨x, s, e, ?_⟩
    cases x <;> first | exact ⟨_, rfl, wp_pure.mp q⟩ | (obtain ⟨_, _, e, _⟩ := q; cases e)
  · rintro ⟨x, s, e, i, rfl, q⟩
    exact ⟨_, s, e, wp_pure.mpr q⟩
theorem wp_not {a : Ex} {Q : Val → Store → Prop} : wp (evalE c (.not a) ρ) st Q ↔ wp (evalE c a ρ) st fun x s => ∃ b, truthy x s = some b ∧ Q (.bl !b) s := by
  rw [show evalE c (.not a) ρ = (do let x ← evalE c a ρ; let b ← look (truthy x); pure (.bl !b)) from rfl]
  simp only [wp_bind, wp_look, wp_pure]
theorem wp_cmp {o : Cm} {a b : Ex} {Q : Val → Store → Prop} : wp (evalE c (.cmp o a b) ρ) st Q ↔ wp (evalE c a ρ) st fun x s => wp (evalE c b ρ) s fun y s => ∃ r, cmpVal o x y s = some r ∧ Q (.bl r) s := by
  rw [show evalE c (.cmp o a b) ρ = (do let x ← evalE c a ρ; let y ← evalE c b ρ; let r ← look (cmpVal o x y); pure (.bl r)) from rfl]
  simp only [wp_bind, wp_look, wp_pure]
theorem wp_ifb {t : Bool} {f h : M α} {Q : α → Store → Prop} : wp (match t with | true => f | false => h) st Q ↔ (t = true → wp f st Q) ∧ (t = false → wp h st Q) := by
  cases t <;> simp
theorem wp_chain {o p : Cm} {a b d : Ex} {Q : Val → Store → Prop} : wp (evalE c (.chain o p a b d) ρ) st Q ↔ wp (evalE c a ρ) st fun x s => wp (evalE c b ρ) s fun y s => ∃ r, cmpVal o x y s = some r ∧ ((r = true → wp (evalE c d ρ) s fun z s => ∃ r, cmpVal p y z s = some r ∧ Q (.bl r) s) ∧ (r = false → Q (.bl false) s)) := by
  rw [show evalE c (.chain o p a b d) ρ = (do let x ← evalE c a ρ; let y ← evalE c b ρ; let r ← look (cmpVal o x y); (match r with | true => do { let z ← evalE c d ρ; let r ← look (cmpVal p y z); pure (.bl r) } | false => pure (.bl false))) from rfl]
  simp only [wp_bind, wp_look, wp_pure, wp_ifb]
theorem wp_and {a b : Ex} {Q : Val → Store → Prop} : wp (evalE c (.and a b) ρ) st Q ↔ wp (evalE c a ρ) st fun x s => ∃ t, truthy x s = some t ∧ ((t = true → wp (evalE c b ρ) s Q) ∧ (t = false → Q x s)) := by
  rw [show evalE c (.and a b) ρ = (do let x ← evalE c a ρ; let t ← look (truthy x); (match t with | true => evalE c b ρ | false => pure x)) from rfl]
  simp only [wp_bind, wp_look, wp_pure, wp_ifb]
theorem wp_or {a b : Ex} {Q : Val → Store → Prop} : wp (evalE c (.or a b) ρ) st Q ↔ wp (evalE c a ρ) st fun x s => ∃ t, truthy x s = some t ∧ ((t = true → Q x s) ∧ (t = false → wp (evalE c b ρ) s Q)) := by
  rw [show evalE c (.or a b) ρ = (do let x ← evalE c a ρ; let t ← look (truthy x); (match t with | true => pure x | false => evalE c b ρ)) from rfl]
  simp only [wp_bind, wp_look, wp_pure, wp_ifb]
theorem wp_ite {d a b : Ex} {Q : Val → Store → Prop} : wp (evalE c (.ite d a b) ρ) st Q ↔ wp (evalE c d ρ) st fun x s => ∃ t, truthy x s = some t ∧ ((t = true → wp (evalE c a ρ) s Q) ∧ (t = false → wp (evalE c b ρ) s Q)) := by
  rw [show evalE c (.ite d a b) ρ = (do let x ← evalE c d ρ; let t ← look (truthy x); (match t with | true => evalE c a ρ | false => evalE c b ρ)) from rfl]
  simp only [wp_bind, wp_look, wp_ifb]
theorem wp_idx {a i : Ex} {Q : Val → Store → Prop} : wp (evalE c (.idx a i) ρ) st Q ↔ wp (evalE c a ρ) st fun x s => wp (evalE c i ρ) s fun y s => ∃ v, idxVal x y s = some v ∧ Q v s := by
  rw [show evalE c (.idx a i) ρ = (do let x ← evalE c a ρ; let y ← evalE c i ρ; look (idxVal x y)) from rfl]
  simp only [wp_bind, wp_look]
theorem wp_rev {b : Bool} {a : Ex} {Q : Val → Store → Prop} : wp (evalE c (.rev b a) ρ) st Q ↔ wp (evalE c a ρ) st fun x s => ∃ xs, lstOf s x = some xs ∧ wp (mkLst b xs.reverse) s Q := by
  rw [show evalE c (.rev b a) ρ = (do let x ← evalE c a ρ; let xs ← look fun st => lstOf st x; mkLst b xs.reverse) from rfl]
  simp only [wp_bind, wp_look]
theorem wp_fld {a : Ex} {f : Str} {Q : Val → Store → Prop} : wp (evalE c (.fld a f) ρ) st Q ↔ wp (evalE c a ρ) st fun x s => ∃ v, ((insOf s x).bind fun r => getF r.2.2 f) = some v ∧ Q v s := by
  rw [show evalE c (.fld a f) ρ = (do let x ← evalE c a ρ; look fun st => (insOf st x).bind fun r => getF r.2.2 f) from rfl]
  simp only [wp_bind, wp_look]
theorem wp_call {f : Str} {ms : List Ex} {Q : Val → Store → Prop} : wp (evalE c (.call f ms) ρ) st Q ↔ wp (evalL c ms ρ) st fun vs s => wp (c.call f vs) s Q := by
  rw [show evalE c (.call f ms) ρ = (do let vs ← evalL c ms ρ; c.call f vs) from rfl]
  simp only [wp_bind]
theorem wp_blt {b : Bool} {o : Bl} {ms : List Ex} {Q : Val → Store → Prop} : wp (evalE c (.blt b o ms) ρ) st Q ↔ wp (evalL c ms ρ) st fun vs s => wp (bltVal b o vs) s Q := by
  rw [show evalE c (.blt b o ms) ρ = (do let vs ← evalL c ms ρ; bltVal b o vs) from rfl]
  simp only [wp_bind]
theorem wp_isi {a : Ex} {T : Str} {Q : Val → Store → Prop} : wp (evalE c (.isi a T) ρ) st Q ↔ wp (evalE c a ρ) st fun x s => ∃ b, isTy s x T = some b ∧ Q (.bl b) s := by
  rw [show evalE c (.isi a T) ρ = (do let x ← evalE c a ρ; let b ← look fun st => isTy st x T; pure (.bl b)) from rfl]
  simp only [wp_bind, wp_look, wp_pure]
theorem wp_comp {b : Bool} {elt : Ex} {t : Tg} {it : It} {ifs : List Ex} {Q : Val → Store → Prop} : wp (evalE c (.comp b elt t it ifs) ρ) st Q ↔ wp (evalI c it ρ) st fun w s =>
    wp (compLoop w t (wipeE ρ (tgSlots t)) (evalT c ifs) (fun ρ' => do let y ← evalE c elt ρ'; pure [y]) w.items) s fun ys s => ys.length ≤ sizeLine ∧ wp (mkLst b ys) s Q := by
  rw [show evalE c (.comp b elt t it ifs) ρ = (do let w ← evalI c it ρ; let ys ← compLoop w t (wipeE ρ (tgSlots t)) (evalT c ifs) (fun ρ' => do let y ← evalE c elt ρ'; pure [y]) w.items; lenOk ys.length; mkLst b ys) from rfl]
  simp only [wp_bind, wp_lenOk]
theorem wp_of {m : Ex} {Q : Walked → Store → Prop} : wp (evalI c (.of m) ρ) st Q ↔ wp (evalE c m ρ) st fun v s => ∃ w, walkOf v s = some w ∧ Q w s := by
  rw [show evalI c (.of m) ρ = (do let v ← evalE c m ρ; look (walkOf v)) from rfl]
  simp only [wp_bind, wp_look]
theorem wp_rng {ms : List Ex} {Q : Walked → Store → Prop} : wp (evalI c (.rng ms) ρ) st Q ↔ wp (evalL c ms ρ) st fun vs s => ∃ w, rngWalk vs = some w ∧ Q w s := by
  rw [show evalI c (.rng ms) ρ = (do let vs ← evalL c ms ρ; lift (rngWalk vs)) from rfl]
  simp only [wp_bind, wp_lift]
theorem wp_irev {m : Ex} {Q : Walked → Store → Prop} : wp (evalI c (.rev m) ρ) st Q ↔ wp (evalE c m ρ) st fun v s => ∃ w, walkBack v s = some w ∧ Q w s := by
  rw [show evalI c (.rev m) ρ = (do let v ← evalE c m ρ; look (walkBack v)) from rfl]
  simp only [wp_bind, wp_look]
theorem wp_t0 {Q : Bool → Store → Prop} : wp (evalT c [] ρ) st Q ↔ Q true st := wp_pure
theorem wp_t1 {m : Ex} {Q : Bool → Store → Prop} : wp (evalT c [m] ρ) st Q ↔ wp (evalE c m ρ) st fun v s => ∃ t, truthy v s = some t ∧ Q t s := by
  rw [show evalT c [m] ρ = (do let v ← evalE c m ρ; let t ← look (truthy v); (match t with | true => evalT c [] ρ | false => pure false)) from rfl]
  simp only [wp_bind, wp_look, wp_ifb, wp_t0, wp_pure]
  constructor
  · rintro ⟨v, s, e, t, h, q1, q2⟩
    refine ⟨v, s, e, t, h, ?_⟩
    cases t
    · exact q2 rfl
    · exact q1 rfl
  · rintro ⟨v, s, e, t, h, q⟩
    exact ⟨v, s, e, t, h, fun e => e ▸ q, fun e => e ▸ q⟩
/-! ### statements -/
theorem wb_nil {Q : Flow → Store → Prop} : wp (execB c [] ρ) st Q ↔ Q (.nxt ρ) st := wp_pure
def nextQ (c : Cf) (r : List Sm) (Q : Flow → Store → Prop) : Flow → Store → Prop
  | .nxt ρ, s => wp (execB c r ρ) s Q
  | f, s => Q f s
theorem nq_nxt {r : List Sm} {Q : Flow → Store → Prop} : nextQ c r Q (.nxt ρ) st ↔ wp (execB c r ρ) st Q := Iff.rfl
theorem nq_ret {r : List Sm} {Q : Flow → Store → Prop} {v : Val} : nextQ c r Q (.ret v) st ↔ Q (.ret v) st := Iff.rfl
theorem nq_brk {r : List Sm} {Q : Flow → Store → Prop} : nextQ c r Q (.brk ρ) st ↔ Q (.brk ρ) st := Iff.rfl
theorem nq_cnt {r : List Sm} {Q : Flow → Store → Prop} : nextQ c r Q (.cnt ρ) st ↔ Q (.cnt ρ) st := Iff.rfl
theorem wb_cons {s : Sm} {r : List Sm} {Q : Flow → Store → Prop} : wp (execB c (s :: r) ρ) st Q ↔ wp (execS c s ρ) st (nextQ c r Q) := by
  rw [show execB c (s :: r) ρ = (do let f ← execS c s ρ; (match f with | .nxt ρ => execB c r ρ | .ret v => pure (.ret v) | .brk ρ => pure (.brk ρ) | .cnt ρ => pure (.cnt ρ))) from rfl]
  rw [wp_bind]
  constructor
  · rintro ⟨f, s, e, q⟩
    refine ⟨f, s, e, ?_⟩
    cases f with
    | nxt ρ => exact q
    | ret v => exact (wp_pure (a := Flow.ret v) (Q := Q)).mp q
    | brk v => exact (wp_pure (a := Flow.brk v) (Q := Q)).mp q
    | cnt v => exact (wp_pure (a := Flow.cnt v) (Q := Q)).mp q
  · rintro ⟨f, s, e, q⟩
    refine ⟨f, s, e, ?_⟩
    cases f with
    | nxt ρ => exact q
    | ret v => exact (wp_pure (a := Flow.ret v) (Q := Q)).mpr q
    | brk v => exact (wp_pure (a := Flow.brk v) (Q := Q)).mpr q
    | cnt v => exact (wp_pure (a := Flow.cnt v) (Q := Q)).mpr q
/-- the k-th statement of a text -/
theorem wb_at {b : List Sm} (k : Nat) {s : Sm} (h : b[k]? = some s) {Q : Flow → Store → Prop} (w : wp (execS c s ρ) st (nextQ c (b.drop (k + 1)) Q)) : wp (execB c (b.drop k) ρ) st Q := by
  have hk := (List.getElem?_eq_some_iff.mp h).1
  rw [List.drop_eq_getElem_cons hk]
  have : b[k] = s := (List.getElem?_eq_some_iff.mp h).2
  rw [this]
  exact wb_cons.mpr w
theorem ws_asg {t : Tgt} {e : Ex} {Q : Flow → Store → Prop} : wp (execS c (.asg t e) ρ) st Q ↔ wp (evalE c e ρ) st fun v s => wp (assignT c t v ρ) s fun ρ' s => Q (.nxt ρ') s := by
  rw [show execS c (.asg t e) ρ = (do let v ← evalE c e ρ; let ρ' ← assignT c t v ρ; pure (.nxt ρ')) from rfl]
  simp only [wp_bind, wp_pure]
theorem ws_aug {t : Tgt} {o : Op} {e : Ex} {Q : Flow → Store → Prop} : wp (execS c (.aug t o e) ρ) st Q ↔ wp (augT c t o e ρ) st fun ρ' s => Q (.nxt ρ') s := by
  rw [show execS c (.aug t o e) ρ = (do let ρ' ← augT c t o e ρ; pure (.nxt ρ')) from rfl]
  simp only [wp_bind, wp_pure]
theorem ws_expr {e : Ex} {Q : Flow → Store → Prop} : wp (execS c (.expr e) ρ) st Q ↔ wp (evalE c e ρ) st fun _ s => Q (.nxt ρ) s := by
  rw [show execS c (.expr e) ρ = (do let _ ← evalE c e ρ; pure (.nxt ρ)) from rfl]
  simp only [wp_bind, wp_pure]
theorem ws_ret {e : Ex} {Q : Flow → Store → Prop} : wp (execS c (.ret e) ρ) st Q ↔ wp (evalE c e ρ) st fun v s => Q (.ret v) s := by
  rw [show execS c (.ret e) ρ = (do let v ← evalE c e ρ; pure (.ret v)) from rfl]
  simp only [wp_bind, wp_pure]
theorem ws_retN {Q : Flow → Store → Prop} : wp (execS c .retN ρ) st Q ↔ Q (.ret .non) st := wp_pure
theorem ws_ite {d : Ex} {a b : List Sm} {Q : Flow → Store → Prop} : wp (execS c (.ite d a b) ρ) st Q ↔ wp (evalE c d ρ) st fun v s => ∃ t, truthy v s = some t ∧ ((t = true → wp (execB c a ρ) s Q) ∧ (t = false → wp (execB c b ρ) s Q)) := by
  rw [show execS c (.ite d a b) ρ = (do let k ← testE c d ρ; (match k with | true => execB c a ρ | false => execB c b ρ)) from rfl]
  rw [show testE c d ρ = (do let v ← evalE c d ρ; look (truthy v)) from rfl]
  simp only [wp_bind, wp_look, wp_ifb]
theorem ws_for {t : Tg} {it : It} {b : List Sm} {Q : Flow → Store → Prop} : wp (execS c (.for_ t it b) ρ) st Q ↔ wp (evalI c it ρ) st fun w s => wp (forLoop w t (execB c b) w.items ρ) s Q := by
  rw [show execS c (.for_ t it b) ρ = (do let w ← evalI c it ρ; forLoop w t (execB c b) w.items ρ) from rfl]
  simp only [wp_bind]
theorem wa_nm {i : Nat} {v : Val} {Q : Env → Store → Prop} : wp (assignT c (.nm i) v ρ) st Q ↔ Q (ρ.set i (some v)) st := wp_pure
theorem wa_tup {ts : List Tgt} {v : Val} {Q : Env → Store → Prop} : wp (assignT c (.tup ts) v ρ) st Q ↔ ∃ xs, seqOf st v = some xs ∧ wp (assignTs c ts xs ρ) st Q := by
  rw [show assignT c (.tup ts) v ρ = (do let xs ← look fun st => seqOf st v; assignTs c ts xs ρ) from rfl]
  simp only [wp_bind, wp_look]
theorem wa_nil {Q : Env → Store → Prop} : wp (assignTs c [] [] ρ) st Q ↔ Q ρ st := wp_pure
theorem wa_cons {t : Tgt} {ts : List Tgt} {v : Val} {vs : List Val} {Q : Env → Store → Prop} : wp (assignTs c (t :: ts) (v :: vs) ρ) st Q ↔ wp (assignT c t v ρ) st fun ρ' s => wp (assignTs c ts vs ρ') s Q := by
  rw [show assignTs c (t :: ts) (v :: vs) ρ = (do let ρ' ← assignT c t v ρ; assignTs c ts vs ρ') from rfl]
  simp only [wp_bind]
theorem wa_idx {o i : Ex} {v : Val} {Q : Env → Store → Prop} : wp (assignT c (.idx o i) v ρ) st Q ↔ wp (evalE c o ρ) st fun x s => wp (evalE c i ρ) s fun k s => wp (setIdx x k v) s fun _ s => Q ρ s := by
  rw [show assignT c (.idx o i) v ρ = (do let x ← evalE c o ρ; let k ← evalE c i ρ; setIdx x k v; pure ρ) from rfl]
  simp only [wp_bind, wp_pure]
theorem wa_fld {o : Ex} {f : Str} {v : Val} {Q : Env → Store → Prop} : wp (assignT c (.fld o f) v ρ) st Q ↔ wp (evalE c o ρ) st fun x s => wp (setFld x f v) s fun _ s => Q ρ s := by
  rw [show assignT c (.fld o f) v ρ = (do let x ← evalE c o ρ; setFld x f v; pure ρ) from rfl]
  simp only [wp_bind, wp_pure]
theorem wu_nm {i : Nat} {o : Op} {e : Ex} {Q : Env → Store → Prop} : wp (augT c (.nm i) o e ρ) st Q ↔ ∃ x, getVar ρ i = some x ∧ wp (evalE c e ρ) st fun y s => wp (augVal o x y) s fun z s => Q (ρ.set i (some z)) s := by
  rw [show augT c (.nm i) o e ρ = (do let x ← lift (getVar ρ i); let y ← evalE c e ρ; let z ← augVal o x y; pure (ρ.set i (some z))) from rfl]
  simp only [wp_bind, wp_pure, wp_lift]
theorem wu_idx {a i : Ex} {o : Op} {e : Ex} {Q : Env → Store → Prop} : wp (augT c (.idx a i) o e ρ) st Q ↔ wp (evalE c a ρ) st fun p s => wp (evalE c i ρ) s fun k s => ∃ x, cellAt p k s = some x ∧ wp (evalE c e ρ) s fun y s => wp (augVal o x y) s fun z s => wp (setIdx p k z) s fun _ s => Q ρ s := by
  rw [show augT c (.idx a i) o e ρ = (do let p ← evalE c a ρ; let k ← evalE c i ρ; let x ← look (cellAt p k); let y ← evalE c e ρ; let z ← augVal o x y; setIdx p k z; pure ρ) from rfl]
  simp only [wp_bind, wp_pure, wp_look]
/-! ### loops -/
/-- a walk of a for: I by the items that are left -/
theorem wf_for {w : Walked} {t : Tg} {body : Env → M Flow} {Q : Flow → Store → Prop} (I : List Val → Env → Store → Prop) : ∀ {l : List Val} {ρ : Env} {st : Store}, I l ρ st →
    (∀ x l ρ st, I (x :: l) ρ st → w.still st = true ∧ ∃ ρ', bindTg t x ρ = some ρ' ∧ wp (body ρ') st fun f s => (match f with
      | .nxt ρ => I l ρ s
      | .cnt ρ => I l ρ s
      | .brk ρ => Q (.nxt ρ) s
      | .ret v => Q (.ret v) s)) →
    (∀ ρ st, I [] ρ st → w.still st = true ∧ Q (.nxt ρ) st) → wp (forLoop w t body l ρ) st Q
  | [], ρ, st, h0, _, hd => by
    rw [show forLoop w t body [] ρ = (do stillM w; pure (.nxt ρ)) from rfl]
    simp only [wp_bind, wp_still, wp_pure]
    exact hd ρ st h0
  | x :: l, ρ, st, h0, hs, hd => by
    rw [show forLoop w t body (x :: l) ρ = (do stillM w; let ρ' ← lift (bindTg t x ρ); let f ← body ρ'; (match f with | .nxt ρ => forLoop w t body l ρ | .cnt ρ => forLoop w t body l ρ | .brk ρ => pure (.nxt ρ) | .ret v => pure (.ret v))) from rfl]
    simp only [wp_bind, wp_still, wp_lift]
    obtain ⟨h1, ρ', h2, f, s, e, q⟩ := hs x l ρ st h0
    refine ⟨h1, ρ', h2, f, s, e, ?_⟩
    cases f with
    | nxt ρ1 => exact wf_for I q hs hd
    | cnt ρ1 => exact wf_for I q hs hd
    | brk ρ1 => exact wp_pure.mpr q
    | ret v => exact wp_pure.mpr q
/-- a walk of a comprehension: I by the items that are left and what is gathered -/
theorem wc_comp {w : Walked} {t : Tg} {ρ : Env} {tests : Env → M Bool} {body : Env → M (List Val)} (I : List Val → List Val → Store → Prop) : ∀ {l acc : List Val} {st : Store} {Q : List Val → Store → Prop}, I l acc st →
    (∀ x l acc st, I (x :: l) acc st → w.still st = true ∧ ∃ ρ', bindTg t x ρ = some ρ' ∧ wp (tests ρ') st fun b s => (b = true → wp (body ρ') s fun ys s => I l (acc ++ ys) s) ∧ (b = false → I l acc s)) →
    (∀ acc' st, I [] acc' st → w.still st = true ∧ ∀ ys, acc' = acc ++ ys → Q ys st) → wp (compLoop w t ρ tests body l) st Q
  | [], acc, st, Q, h0, _, hd => by
    rw [show compLoop w t ρ tests body [] = (do stillM w; pure []) from rfl]
    simp only [wp_bind, wp_still, wp_pure]
    exact ⟨(hd acc st h0).1, (hd acc st h0).2 [] (by simp)⟩
  | x :: l, acc, st, Q, h0, hs, hd => by
    rw [show compLoop w t ρ tests body (x :: l) = (do stillM w; let ρ' ← lift (bindTg t x ρ); let b ← tests ρ'; (match b with | true => do { let ys ← body ρ'; let zs ← compLoop w t ρ tests body l; pure (ys ++ zs) } | false => compLoop w t ρ tests body l)) from rfl]
    simp only [wp_bind, wp_still, wp_lift, wp_ifb, wp_pure]
    obtain ⟨h1, ρ', h2, b, s, e, q1, q2⟩ := hs x l acc st h0
    refine ⟨h1, ρ', h2, b, s, e, fun hb => ?_, fun hb => ?_⟩
    · refine wp_mono (q1 hb) fun ys s1 h3 => ?_
      refine wc_comp I h3 hs fun acc' st h4 => ⟨(hd acc' st h4).1, fun zs e => (hd acc' st h4).2 _ (by rw [e, List.append_assoc])⟩
    · exact wc_comp I (q2 hb) hs hd
/-! ### calls -/
theorem leave_at {k : Nat} {v : Val} {Q : Val → Store → Prop} (hv : old k v = true) (hk : st.length = k) (hs : st.all (oldO k) = true) (q : Q v st) : wp (leave k v) st Q := by
  refine ⟨v, st, ?_, q⟩
  unfold leave
  have e1 : frz k st 20 v = some v := by unfold frz; rw [if_pos hv]
  have e2 : st.take k = st := List.take_of_length_le (by omega)
  rw [e1, e2, hs]
end
end Mn

end

section
set_option maxHeartbeats 4000000
/-! Mn: calls, the laws' tape. -/
namespace Mn
open PySem

def cf (D : Defs) (G : Str → Option Val) (n : Nat) : Cf :=
  { call := fun f vs => callFn D G n (Str.ofString "") f vs
    meth := fun C m vs => if C = Str.ofString "" ∨ m = "__init__" then bad else callFn D G n C m vs
    make := fun C vs => if C = Str.ofString "" then bad else (do
      let o ← alloc (.ins C [])
      let r ← (match n with
        | 0 => bad
        | n + 1 => callFn D G n C "__init__" (o :: vs))
      guardM (decide (r = .non))
      pure o)
    glob := G }
section
variable {D : Defs} {G : Str → Option Val} {n : Nat} {st : Store}
theorem cf_call {f : Str} {vs : List Val} : (cf D G n).call f vs = callFn D G n (Str.ofString "") f vs := rfl
theorem cf_glob {x : Str} : (cf D G n).glob x = G x := rfl
/-- how a def ends -/
def ended (F : Fn) (k : Nat) (Q : Val → Store → Prop) : Flow → Store → Prop
  | .nxt _, s => wp (if F.drop then leave k .non else pure .non) s Q
  | .ret v, s => wp (if F.drop then leave k v else pure v) s Q
  | _, _ => False
theorem wp_fn {C f : Str} {F : Fn} {vs : List Val} {Q : Val → Store → Prop} (hF : findFn D C f = some F) (hl : vs.length = F.np) (h : wp (execB (cf D G n) F.body (startEnv F.n vs)) st (ended F st.length Q)) : wp (callFn D G (n + 1) C f vs) st Q := by
  obtain ⟨fl, s, e, q⟩ := h
  have e1 : callFn D G (n + 1) C f vs st = runBody (cf D G n) F vs st := by
    unfold callFn
    rw [hF]
    rfl
  unfold runBody at e1
  have hfull : fullArgs F vs = some vs := by unfold fullArgs; rw [if_pos hl]
  rw [hfull] at e1
  dsimp only at e1
  rw [e] at e1
  cases fl with
  | nxt ρ =>
    obtain ⟨v, s', e2, q2⟩ := q
    exact ⟨v, s', e1.trans e2, q2⟩
  | ret v =>
    obtain ⟨v, s', e2, q2⟩ := q
    exact ⟨v, s', e1.trans e2, q2⟩
  | brk ρ => exact q.elim
  | cnt ρ => exact q.elim
theorem ended_ret {F : Fn} {k : Nat} {Q : Val → Store → Prop} {v : Val} (hd : F.drop = true) (hv : old k v = true) (hk : st.length = k) (hs : st.all (oldO k) = true) (q : Q v st) : ended F k Q (.ret v) st := by
  unfold ended
  rw [hd, if_pos rfl]
  exact leave_at hv hk hs q
end
theorem oldL_ints {k : Nat} : ∀ {ns : List Int}, oldL k (ns.map .int) = true
  | [] => rfl
  | n :: r => by simp only [List.map_cons, oldL, old, oldL_ints, Bool.and_self]
/-! ### the tape -/
def tapeO (ns : List Int) (p r s : Int) : Obj := .lst [.lst (ns.map .int), .int p, .int r, .int s]
theorem tape_old {k : Nat} {ns : List Int} {p r s : Int} : oldO k (tapeO ns p r s) = true := by
  simp [tapeO, oldO, oldL, old, oldL_ints]
def lawNext : Fn := ⟨2, 5, [], [.asg (.nm 2) (.idx (.var 0) (.cst (.int 2))),
   .ite (.cmp .gt (.var 2) (.cst (.int 0)))
     [.asg (.idx (.var 0) (.cst (.int 2))) (.bin .fdiv (.var 2) (.var 1)),
      .ret (.bin .mod (.blt false .int [.var 2]) (.var 1))]
     [],
   .asg (.nm 3) (.cst (.int 0)),
   .ite (.cmp .lt (.idx (.var 0) (.cst (.int 1))) (.blt false .len [.idx (.var 0) (.cst (.int 0))]))
     [.asg (.nm 3) (.blt false .abs [.idx (.idx (.var 0) (.cst (.int 0))) (.idx (.var 0) (.cst (.int 1)))]),
      .aug (.idx (.var 0) (.cst (.int 1))) .add (.cst (.int 1))]
     [],
   .ite (.cmp .ge (.var 3) (.bin .pow (.cst (.int 10)) (.cst (.int 18))))
     [.asg (.idx (.var 0) (.cst (.int 2))) (.bin .fdiv (.var 3) (.var 1)),
      .ret (.bin .mod (.blt false .int [.var 3]) (.var 1))]
     [],
   .asg (.idx (.var 0) (.cst (.int 3))) (.bin .mod (.blt false .int [.bin .add (.bin .add (.bin .mul (.idx (.var 0) (.cst (.int 3))) (.cst (.int 48271))) (.bin .mul (.var 3) (.cst (.int 69621)))) (.cst (.int 11))]) (.cst (.int 2147483647))),
   .asg (.nm 4) (.bin .mod (.blt false .int [.bin .add (.bin .mul (.idx (.var 0) (.cst (.int 3))) (.cst (.int 16807))) (.cst (.int 7))]) (.cst (.int 2147483629))),
   .ret (.bin .mod (.bin .fdiv (.var 4) (.cst (.int 7))) (.var 1))], true⟩
section
variable {st : Store}
theorem bin_add {a b : Int} : binop .add (.int a) (.int b) st = some (.int (a + b)) := rfl
theorem bin_sub {a b : Int} : binop .sub (.int a) (.int b) st = some (.int (a - b)) := rfl
theorem bin_mul {a b : Int} (h : small64 a = true ∨ small64 b = true) : binop .mul (.int a) (.int b) st = some (.int (a * b)) := by
  have : (small64 a || small64 b) = true := by rw [Bool.or_eq_true]; exact h
  simp [binop, binInt, this]
theorem bin_fdiv {a b : Int} (h : 0 < b) (h2 : b < 1073741824) : binop .fdiv (.int a) (.int b) st = some (.int (a / b)) := by
  simp [binop, binInt, h, h2]
theorem bin_mod {a b : Int} (h : 0 < b) : binop .mod (.int a) (.int b) st = some (.int (a % b)) := by
  simp [binop, binInt, h]
theorem cmp_lt {a b : Int} : cmpVal .lt (.int a) (.int b) st = some (decide (a < b)) := rfl
theorem cmp_gt {a b : Int} : cmpVal .gt (.int a) (.int b) st = some (decide (b < a)) := rfl
theorem cmp_ge {a b : Int} : cmpVal .ge (.int a) (.int b) st = some (decide (b ≤ a)) := rfl
theorem cmp_le {a b : Int} : cmpVal .le (.int a) (.int b) st = some (decide (a ≤ b)) := rfl
theorem tr_bl {b : Bool} : truthy (.bl b) st = some b := rfl
theorem tr_int {i : Int} : truthy (.int i) st = some (i != 0) := rfl
theorem blt_int {i : Int} {Q : Val → Store → Prop} {b : Bool} : wp (bltVal b .int [.int i]) st Q ↔ Q (.int i) st := wp_pure
theorem blt_abs {i : Int} {Q : Val → Store → Prop} {b : Bool} : wp (bltVal b .abs [.int i]) st Q ↔ Q (.int (if i < 0 then -i else i)) st := wp_pure
theorem atI_nat {α : Type} {xs : List α} {k : Nat} (h : k < xs.length) : L2.atI xs (k : Int) = xs[k]? := by
  unfold L2.atI L2.ixN
  simp [h]
theorem ex_some {α : Type} {a : α} {P : α → Prop} : (∃ v, some a = some v ∧ P v) ↔ P a := ⟨fun ⟨v, e, p⟩ => by cases e; exact p, fun p => ⟨a, rfl, p⟩⟩
theorem idx_cell {i : Nat} {xs : List Val} {k : Int} (h : st[i]? = some (.lst xs)) : idxVal (.ref i) (.int k) st = L2.atI xs k := by
  simp [idxVal, dctOf, h, seqOf, tupOf, lstOf]
theorem idx_lst {xs : List Val} {k : Int} : idxVal (.lst xs) (.int k) st = L2.atI xs k := by
  simp [idxVal, dctOf, seqOf, tupOf, lstOf]
theorem idx_tup {xs : List Val} {k : Int} : idxVal (.tup xs) (.int k) st = L2.atI xs k := by
  simp [idxVal, dctOf, seqOf, tupOf]
theorem len_lst {xs : List Val} {Q : Val → Store → Prop} {b : Bool} : wp (bltVal b .len [.lst xs]) st Q ↔ Q (.int xs.length) st := by
  unfold bltVal
  rw [wp_look]
  simp [seqOf, tupOf, lstOf]
theorem set_cell {i : Nat} {xs : List Val} {k : Int} {v : Val} {Q : Unit → Store → Prop} {j : Nat} (h : st[i]? = some (.lst xs)) (hk : L2.ixN xs.length k = some j) : wp (setIdx (.ref i) (.int k) v) st Q ↔ Q () (st.set i (.lst (xs.set j v))) := by
  have e : setIdx (.ref i) (.int k) v = (do
    let ob ← look fun st => st[i]?
    match ob with
    | .lst xs => (do
        let j ← lift (ixOf xs.length k)
        write i (.lst (xs.set j v)))
    | .dct kvs => (do
      guardM (keyOk (.int k) && decide (kvs.length < sizeLine))
      write i (.dct (putKv kvs (.int k) v)))
    | _ => bad) := rfl
  rw [e, wp_bind, wp_look]
  constructor
  · rintro ⟨o, h1, h2⟩
    rw [h] at h1; cases h1
    simp only [wp_bind, wp_lift, wp_write] at h2
    obtain ⟨j', h3, h4⟩ := h2
    have : ixOf xs.length k = some j := hk
    rw [this] at h3; cases h3
    exact h4
  · intro q
    exact ⟨_, h, by simp only [wp_bind, wp_lift, wp_write]; exact ⟨j, hk, q⟩⟩
theorem aug_int {o : Op} {a b : Int} {Q : Val → Store → Prop} : wp (augVal o (.int a) (.int b)) st Q ↔ ∃ r, binInt o a b = some r ∧ Q (.int r) st := by
  show wp (lift _) st Q ↔ _
  rw [wp_lift]
  constructor
  · rintro ⟨v, e, q⟩
    obtain ⟨r, h1, rfl⟩ := Option.map_eq_some_iff.mp e
    exact ⟨r, h1, q⟩
  · rintro ⟨r, h1, q⟩
    exact ⟨.int r, by rw [h1]; rfl, q⟩
theorem cell_lst {i : Nat} {xs : List Val} {k : Int} (h : st[i]? = some (.lst xs)) : cellAt (.ref i) (.int k) st = L2.atI xs k := by
  simp [cellAt, h]
theorem atI0 {α : Type} {a : α} {r : List α} : L2.atI (a :: r) 0 = some a := by
  simp [L2.atI, L2.ixN]
theorem tp0 {ns : List Int} {p r s : Int} : L2.atI [Val.lst (ns.map .int), .int p, .int r, .int s] 0 = some (.lst (ns.map .int)) := by simp [L2.atI, L2.ixN]
theorem tp1 {ns : List Int} {p r s : Int} : L2.atI [Val.lst (ns.map .int), .int p, .int r, .int s] 1 = some (.int p) := by simp [L2.atI, L2.ixN]
theorem tp2 {ns : List Int} {p r s : Int} : L2.atI [Val.lst (ns.map .int), .int p, .int r, .int s] 2 = some (.int r) := by simp [L2.atI, L2.ixN]
theorem tp3 {ns : List Int} {p r s : Int} : L2.atI [Val.lst (ns.map .int), .int p, .int r, .int s] 3 = some (.int s) := by simp [L2.atI, L2.ixN]
end
section
variable {st : Store} {i : Nat} {ns : List Int} {p r s : Int} {c : Cf} {ρ : Env}
theorem t_set1 {v : Int} {Q : Unit → Store → Prop} (h : st[i]? = some (tapeO ns p r s)) : wp (setIdx (.ref i) (.int 1) (.int v)) st Q ↔ Q () (st.set i (tapeO ns v r s)) := set_cell (j := 1) h (by simp [L2.ixN])
theorem t_set2 {v : Int} {Q : Unit → Store → Prop} (h : st[i]? = some (tapeO ns p r s)) : wp (setIdx (.ref i) (.int 2) (.int v)) st Q ↔ Q () (st.set i (tapeO ns p v s)) := set_cell (j := 2) h (by simp [L2.ixN])
theorem t_set3 {v : Int} {Q : Unit → Store → Prop} (h : st[i]? = some (tapeO ns p r s)) : wp (setIdx (.ref i) (.int 3) (.int v)) st Q ↔ Q () (st.set i (tapeO ns p r v)) := set_cell (j := 3) h (by simp [L2.ixN])
theorem t_0 (h : st[i]? = some (tapeO ns p r s)) : idxVal (.ref i) (.int 0) st = some (.lst (ns.map .int)) := (idx_cell h).trans tp0
theorem t_1 (h : st[i]? = some (tapeO ns p r s)) : idxVal (.ref i) (.int 1) st = some (.int p) := (idx_cell h).trans tp1
theorem t_2 (h : st[i]? = some (tapeO ns p r s)) : idxVal (.ref i) (.int 2) st = some (.int r) := (idx_cell h).trans tp2
theorem t_3 (h : st[i]? = some (tapeO ns p r s)) : idxVal (.ref i) (.int 3) st = some (.int s) := (idx_cell h).trans tp3
theorem c_1 (h : st[i]? = some (tapeO ns p r s)) : cellAt (.ref i) (.int 1) st = some (.int p) := (cell_lst h).trans tp1
/-- a text's value by its place -/
theorem gv {ρ : Env} {i : Nat} {v : Val} (h : ρ[i]? = some (some v)) : getVar ρ i = some v := by unfold getVar; rw [h]
theorem gv_zero {a : Option Val} {ρ : Env} : getVar (a :: ρ) 0 = a := by cases a <;> rfl
theorem gv_succ {a : Option Val} {ρ : Env} {i : Nat} : getVar (a :: ρ) (i + 1) = getVar ρ i := rfl
theorem wpv {i : Nat} {v : Val} {Q : Val → Store → Prop} (h : ρ[i]? = some (some v)) : wp (evalE c (.var i) ρ) st Q ↔ Q v st := by
  rw [wp_var, gv h]; exact ex_some
theorem set_self {o : Obj} (h : st[i]? = some o) (o' : Obj) : (st.set i o')[i]? = some o' := by
  have := (List.getElem?_eq_some_iff.mp h).1
  simp [this]
theorem set_old {k : Nat} {o : Obj} (h : st.all (oldO k) = true) (ho : oldO k o = true) : (st.set i o).all (oldO k) = true := by
  rw [List.all_eq_true] at h ⊢
  intro x hx
  rcases List.mem_or_eq_of_mem_set hx with hx | hx
  · exact h x hx
  · rw [hx]; exact ho
/-- the second half: a new seed -/
theorem next_tail {k : Nat} {many cell : Int} {a b : Option Val} (hm : 0 < many) (h : st[i]? = some (tapeO ns p r s)) (ho : st.all (oldO k) = true) (hk : st.length = k) {Q : Val → Store → Prop}
    (q : ∀ v s', 0 ≤ v → v < many → Q (.int v) (st.set i (tapeO ns p r s'))) :
    wp (execB c (lawNext.body.drop 5) [some (.ref i), some (.int many), a, some (.int cell), b]) st (ended lawNext k Q) := by
  show wp (execB c [.asg _ _, .asg _ _, .ret _] _) st _
  have s1 : small64 48271 = true := by decide
  have s2 : small64 69621 = true := by decide
  have s3 : small64 16807 = true := by decide
  simp only [wb_cons, nq_nxt, nq_ret, ws_asg, wp_bin, wp_blt, wp_cons, wp_nil, wp_idx, wp_cint, wp_cstr, wp_cbl, wp_cnon, wp_var, gv_zero, gv_succ, t_3 h, ex_some, bin_mul (.inr s1), bin_mul (.inr s2), bin_add, blt_int, bin_mod (show (0 : Int) < 2147483647 by decide), wa_idx, t_set3 h, wa_nm]
  have h' := set_self h (tapeO ns p r ((s * 48271 + cell * 69621 + 11) % 2147483647))
  simp only [wb_cons, nq_nxt, nq_ret, t_3 h', ex_some, bin_mul (.inr s3), bin_add, blt_int, bin_mod (show (0 : Int) < 2147483629 by decide), ws_ret, wp_bin, wp_cint, wp_cstr, wp_cbl, wp_cnon, List.set_cons_succ, List.set_cons_zero, wp_var, gv_zero, gv_succ, bin_fdiv (show (0 : Int) < 7 by decide) (by decide), bin_mod hm]
  refine ended_ret rfl rfl (by simpa using hk) (set_old ho tape_old) (q _ _ ?_ ?_)
  · exact Int.emod_nonneg _ (by omega)
  · exact Int.emod_lt_of_pos _ hm
end
end Mn

end

section
set_option maxHeartbeats 4000000
/-! Mn: the next number of a law's tape. -/
namespace Mn
open PySem
section
variable {D : Defs} {G : Str → Option Val} {st : Store} {i : Nat} {ns : List Int} {p r s : Int} {c : Cf}
theorem pow_18 : binop .pow (.int 10) (.int 18) st = some (.int 1000000000000000000) := by
  have h : powOk 10 18 = true := by decide
  simp [binop, binInt, h]
theorem next_body {k : Nat} {many : Int} (hm : 0 < many) (hm2 : many < 1073741824) (hp : 0 ≤ p) (h : st[i]? = some (tapeO ns p r s)) (ho : st.all (oldO k) = true) (hk : st.length = k) {Q : Val → Store → Prop}
    (q : ∀ v p' r' s', 0 ≤ v → v < many → 0 ≤ p' → Q (.int v) (st.set i (tapeO ns p' r' s'))) :
    wp (execB c (lawNext.body.drop 0) [some (.ref i), some (.int many), none, none, none]) st (ended lawNext k Q) := by
  refine wb_at 0 rfl ?_
  simp only [ws_asg, wp_idx, wp_cint, wp_cstr, wp_cbl, wp_cnon, wp_var, gv_zero, gv_succ, t_2 h, ex_some, wa_nm, List.set_cons_succ, List.set_cons_zero, nq_nxt]
  refine wb_at 1 rfl ?_
  simp only [ws_ite, wp_cmp, wp_cint, wp_cstr, wp_cbl, wp_cnon, wp_var, gv_zero, gv_succ, ex_some, cmp_gt, tr_bl, decide_eq_true_eq, decide_eq_false_iff_not]
  refine ⟨fun hr => ?_, fun hr => ?_⟩
  · simp only [wp_bin, wp_var, gv_zero, gv_succ, ex_some, bin_fdiv hm hm2, wa_idx, wp_cint, wp_cstr, wp_cbl, wp_cnon, t_set2 h, ws_ret, wp_blt, wp_cons, wp_nil, blt_int, bin_mod hm, wb_cons, ws_asg, nq_nxt, nq_ret]
    refine ended_ret rfl rfl (by simpa using hk) (set_old ho tape_old) (q _ _ _ _ (Int.emod_nonneg _ (by omega)) (Int.emod_lt_of_pos _ hm) hp)
  · simp only [wb_nil, nq_nxt]
    refine wb_at 2 rfl ?_
    simp only [ws_asg, wp_cint, wp_cstr, wp_cbl, wp_cnon, wa_nm, List.set_cons_succ, List.set_cons_zero, nq_nxt]
    have tail : ∀ (p' cell : Int), 0 ≤ p' → wp (execB c (lawNext.body.drop 4) [some (.ref i), some (.int many), some (.int r), some (.int cell), none]) (st.set i (tapeO ns p' r s)) (ended lawNext k Q) := by
      intro p' cell hp'
      have h1 := set_self h (tapeO ns p' r s)
      have ho1 := set_old (o := tapeO ns p' r s) (i := i) ho tape_old
      refine wb_at 4 rfl ?_
      simp only [ws_ite, wp_cmp, wp_bin, wp_cint, wp_cstr, wp_cbl, wp_cnon, wp_var, gv_zero, gv_succ, ex_some, pow_18, cmp_ge, tr_bl, decide_eq_true_eq, decide_eq_false_iff_not]
      refine ⟨fun hc => ?_, fun hc => ?_⟩
      · simp only [wb_cons, ws_asg, wp_bin, wp_var, gv_zero, gv_succ, ex_some, bin_fdiv hm hm2, wa_idx, wp_cint, wp_cstr, wp_cbl, wp_cnon, t_set2 h1, ws_ret, wp_blt, wp_cons, wp_nil, blt_int, bin_mod hm, List.set_set, nq_nxt, nq_ret]
        refine ended_ret rfl rfl (by simpa using hk) (set_old ho tape_old) (q _ _ _ _ (Int.emod_nonneg _ (by omega)) (Int.emod_lt_of_pos _ hm) hp')
      · simp only [wb_nil, nq_nxt]
        refine next_tail hm h1 ho1 (by simpa using hk) fun v s' h2 h3 => ?_
        rw [List.set_set]
        exact q _ _ _ _ h2 h3 hp'
    refine wb_at 3 rfl ?_
    simp only [ws_ite, wp_cmp, wp_idx, wp_var, gv_zero, gv_succ, wp_cint, wp_cstr, wp_cbl, wp_cnon, ex_some, t_1 h, t_0 h, wp_blt, wp_cons, wp_nil, len_lst, cmp_lt, tr_bl, decide_eq_true_eq, decide_eq_false_iff_not, List.length_map]
    refine ⟨fun hl => ?_, fun hl => ?_⟩
    · have hlt : p.toNat < (ns.map Val.int).length := by rw [List.length_map]; omega
      have e1 : L2.atI (ns.map Val.int) p = some (.int ns[p.toNat]!) := by
        have := atI_nat hlt
        rw [show ((p.toNat : Nat) : Int) = p by omega] at this
        rw [this, List.getElem?_map]
        rw [List.length_map] at hlt
        simp [hlt]
      simp only [wb_cons, ws_asg, wp_idx, wp_var, gv_zero, gv_succ, wp_cint, wp_cstr, wp_cbl, wp_cnon, ex_some, t_0 h, t_1 h, idx_lst, e1, wp_blt, wp_cons, wp_nil, blt_abs, wa_nm, List.set_cons_succ, List.set_cons_zero, ws_aug, wu_idx, c_1 h, aug_int, binInt, t_set1 h, wb_nil, nq_nxt]
      exact tail (p + 1) _ (by omega)
    · have t := tail p 0 hp
      have e : st.set i (tapeO ns p r s) = st := by
        refine (List.ext_getElem? fun j => ?_)
        by_cases hj : i = j
        · subst hj; rw [set_self h]; exact h.symm
        · rw [List.getElem?_set_ne hj]
      rw [e] at t
      simp only [wb_nil, nq_nxt]
      exact t
/-- the tape stands at i -/
def Tape (st : Store) (i : Nat) (ns : List Int) : Prop := ∃ p r s : Int, 0 ≤ p ∧ st[i]? = some (tapeO ns p r s)
theorem next_ok (hD : findFn D (Str.ofString "") "_law_next" = some lawNext) {n : Nat} {many : Int} (hm : 0 < many) (hm2 : many < 1073741824) (T : Tape st i ns) (ho : st.all (oldO st.length) = true) {Q : Val → Store → Prop}
    (q : ∀ v o, 0 ≤ v → v < many → Tape (st.set i o) i ns → (st.set i o).all (oldO (st.set i o).length) = true → Q (.int v) (st.set i o)) :
    wp (callFn D G (n + 1) (Str.ofString "") "_law_next" [.ref i, .int many]) st Q := by
  obtain ⟨p, r, s, hp, h⟩ := T
  refine wp_fn hD rfl ?_
  exact next_body hm hm2 hp h ho rfl fun v p' r' s' h1 h2 h3 => q v _ h1 h2 ⟨p', r', s', h3, set_self h _⟩ (by rw [List.length_set]; exact set_old ho tape_old)
end
end Mn

end

section
set_option maxHeartbeats 1000000
/-! Mn: comprehensions that leave the store as it is. -/
namespace Mn
open PySem
section
variable {st : Store} {c : Cf} {ρ : Env}
theorem wc_pure {w : Walked} {t : Tg} {tests : Env → M Bool} {body : Env → M (List Val)} (p : Val → Bool) (f : Val → Val) {Q : List Val → Store → Prop} (hw : w.still st = true) : ∀ {l : List Val},
    (∀ x ∈ l, ∃ ρ', bindTg t x ρ = some ρ' ∧ wp (tests ρ') st (fun b s => s = st ∧ b = p x) ∧ (p x = true → wp (body ρ') st fun ys s => s = st ∧ ys = [f x])) →
    Q ((l.filter p).map f) st → wp (compLoop w t ρ tests body l) st Q
  | [], _, q => by
    rw [show compLoop w t ρ tests body [] = (do stillM w; pure []) from rfl]
    simp only [wp_bind, wp_still, wp_pure]
    exact ⟨hw, q⟩
  | x :: l, h, q => by
    rw [show compLoop w t ρ tests body (x :: l) = (do stillM w; let ρ' ← lift (bindTg t x ρ); let b ← tests ρ'; (match b with | true => do { let ys ← body ρ'; let zs ← compLoop w t ρ tests body l; pure (ys ++ zs) } | false => compLoop w t ρ tests body l)) from rfl]
    rw [wp_bind, wp_still]
    obtain ⟨ρ', h1, h2, h3⟩ := h x (List.mem_cons_self ..)
    refine ⟨hw, ?_⟩
    rw [wp_bind, wp_lift]
    refine ⟨ρ', h1, ?_⟩
    rw [wp_bind]
    refine wp_mono h2 fun b s he => ?_
    rw [he.1, he.2]
    have hr := fun y (hy : y ∈ l) => h y (List.mem_cons_of_mem _ hy)
    cases hb : p x with
    | true =>
      show wp (do { let ys ← body ρ'; let zs ← compLoop w t ρ tests body l; pure (ys ++ zs) } : M (List Val)) _ Q
      rw [wp_bind]
      refine wp_mono (h3 hb) fun ys s1 he => ?_
      rw [he.1, he.2, wp_bind]
      refine wc_pure p f hw hr ?_
      rw [wp_pure]
      rw [List.filter_cons, hb] at q
      exact q
    | false =>
      show wp (compLoop w t ρ tests body l) _ Q
      refine wc_pure p f hw hr ?_
      rw [List.filter_cons, hb] at q
      exact q
/-- the same, over ints -/
theorem wc_ints {w : Walked} {i : Nat} {tests : Env → M Bool} {body : Env → M (List Val)} (p : Int → Bool) (f : Int → Val) {Q : List Val → Store → Prop} (hw : w.still st = true) {l : List Int}
    (h : ∀ x ∈ l, wp (tests (ρ.set i (some (.int x)))) st (fun b s => s = st ∧ b = p x) ∧ (p x = true → wp (body (ρ.set i (some (.int x)))) st fun ys s => s = st ∧ ys = [f x]))
    (q : Q ((l.filter p).map f) st) : wp (compLoop w (.nm i) ρ tests body (l.map .int)) st Q := by
  refine wc_pure (fun v => match v with | .int x => p x | _ => false) (fun v => match v with | .int x => f x | v => v) hw (fun x hx => ?_) ?_
  · obtain ⟨y, hy, rfl⟩ := List.mem_map.mp hx
    exact ⟨_, rfl, h y hy⟩
  · rw [List.filter_map, List.map_map]
    exact q
theorem rng_vals {n : Nat} : rngVals 0 n = ((List.range n).map fun i => ((i : Nat) : Int)).map .int := by
  unfold rngVals
  rw [List.map_map]
  refine List.map_congr_left fun i _ => ?_
  simp
theorem rng_walk {j : Int} (h0 : 0 ≤ j) (h : j ≤ 16777216) : rngWalk [.int j] = some ⟨rngVals 0 j.toNat, none, false⟩ := by
  have hs := sizeLine_eq
  have : (decide (-(2 ^ 62) ≤ j) && (decide (j < 2 ^ 62) && decide (j.toNat ≤ sizeLine))) = true := by
    simp only [Bool.and_eq_true, decide_eq_true_eq]
    omega
  unfold rngWalk
  show (rngOf [.int j]).map _ = _
  have e : rngOf [.int j] = some (0, j.toNat) := by
    show (if (decide (-(2 ^ 62) ≤ j) && (decide (j < 2 ^ 62) && decide (j.toNat ≤ sizeLine))) = true then some (0, j.toNat) else none) = _
    rw [if_pos this]
  rw [e]
  rfl
end
end Mn

end

section
set_option maxHeartbeats 1000000
/-! Mn: comparisons of data. -/
namespace Mn
open PySem
section
variable {st : Store}
theorem eq_int {a b : Int} : eqVal (.int a) (.int b) st = some (decide (a = b)) := by
  rw [show eqVal (.int a) (.int b) st = if (SeqAt.shaped (.int a) && SeqAt.shaped (.int b)) = true then some (PyData.eqv (.int a) (.int b)) else none from rfl, if_pos (show (SeqAt.shaped (PyData.int a) && SeqAt.shaped (PyData.int b)) = true from rfl)]
  rfl
theorem cmp_eq_int {a b : Int} : cmpVal .eq (.int a) (.int b) st = some (decide (a = b)) := eq_int (st := st)
theorem cmp_ne_int {a b : Int} : cmpVal .ne (.int a) (.int b) st = some (!decide (a = b)) := by
  rw [show cmpVal .ne (.int a) (.int b) st = (eqVal (.int a) (.int b) st).map (!·) from rfl, eq_int]
  rfl
theorem cmp_eq_bl {a b : Bool} : cmpVal .eq (.bl a) (.bl b) st = some (decide (a = b)) := by
  cases a <;> cases b <;> rfl
theorem cmp_ne_bl {a b : Bool} : cmpVal .ne (.bl a) (.bl b) st = some (!decide (a = b)) := by
  cases a <;> cases b <;> rfl
end
theorem toPyL_ints : ∀ {ns : List Int}, toPyL (ns.map .int) = some (ns.map .int)
  | [] => rfl
  | n :: r => by
    rw [List.map_cons]
    unfold toPyL
    rw [toPyL_ints]
    rfl
theorem eqvAll_ints : ∀ {xs ys : List Int}, PyData.eqvAll (xs.map .int) (ys.map .int) = decide (xs = ys)
  | [], [] => rfl
  | [], _ :: _ => rfl
  | _ :: _, [] => rfl
  | x :: xs, y :: ys => by
    rw [List.map_cons, List.map_cons]
    unfold PyData.eqvAll
    rw [eqvAll_ints]
    show ((x == y) && decide (xs = ys)) = _
    by_cases h : x = y
    · subst h; simp
    · simp [h]
theorem lay_ints : ∀ {xs : List Int}, PyData.canLayAll0 (xs.map .int) = true ∧ PyData.depthAll (xs.map .int) = 0
  | [] => ⟨rfl, rfl⟩
  | x :: xs => by
    have h := lay_ints (xs := xs)
    rw [List.map_cons]
    unfold PyData.canLayAll0 PyData.depthAll
    rw [h.1, h.2]
    exact ⟨rfl, rfl⟩
theorem shaped_lst {xs : List Int} : SeqAt.shaped (.list (xs.map .int)) = true := by
  have h := lay_ints (xs := xs)
  show (PyData.canLayAll0 (xs.map .int) && decide (PyData.depthAll (xs.map .int) + 1 ≤ 64)) = true
  rw [h.1, h.2]
  rfl
theorem shaped_tup {xs : List Int} : SeqAt.shaped (.tuple (xs.map .int)) = true := by
  have h := lay_ints (xs := xs)
  show (PyData.canLayAll0 (xs.map .int) && decide (PyData.depthAll (xs.map .int) + 1 ≤ 64)) = true
  rw [h.1, h.2]
  rfl
section
variable {st : Store}
theorem py_lst {xs : List Int} : toPy (.lst (xs.map .int)) = some (.list (xs.map .int)) := by
  rw [show toPy (.lst (xs.map .int)) = (toPyL (xs.map .int)).map .list from rfl, toPyL_ints]; rfl
theorem py_tup {xs : List Int} : toPy (.tup (xs.map .int)) = some (.tuple (xs.map .int)) := by
  rw [show toPy (.tup (xs.map .int)) = (toPyL (xs.map .int)).map .tuple from rfl, toPyL_ints]; rfl
theorem eq_lsts {xs ys : List Int} : eqVal (.lst (xs.map .int)) (.lst (ys.map .int)) st = some (decide (xs = ys)) := by
  unfold eqVal deref
  dsimp only
  rw [py_lst, py_lst]
  dsimp only
  rw [shaped_lst, shaped_lst, if_pos (show (true && true) = true from rfl), show PyData.eqv (.list (xs.map .int)) (.list (ys.map .int)) = PyData.eqvAll (xs.map .int) (ys.map .int) from rfl, eqvAll_ints]
theorem eq_tups {xs ys : List Int} : eqVal (.tup (xs.map .int)) (.tup (ys.map .int)) st = some (decide (xs = ys)) := by
  unfold eqVal deref
  dsimp only
  rw [py_tup, py_tup]
  dsimp only
  rw [shaped_tup, shaped_tup, if_pos (show (true && true) = true from rfl), show PyData.eqv (.tuple (xs.map .int)) (.tuple (ys.map .int)) = PyData.eqvAll (xs.map .int) (ys.map .int) from rfl, eqvAll_ints]
theorem cmp_ne_lsts {xs ys : List Int} : cmpVal .ne (.lst (xs.map .int)) (.lst (ys.map .int)) st = some (!decide (xs = ys)) := by
  rw [show cmpVal .ne (.lst (xs.map .int)) (.lst (ys.map .int)) st = (eqVal (.lst (xs.map .int)) (.lst (ys.map .int)) st).map (!·) from rfl, eq_lsts]; rfl
theorem cmp_ne_tups {xs ys : List Int} : cmpVal .ne (.tup (xs.map .int)) (.tup (ys.map .int)) st = some (!decide (xs = ys)) := by
  rw [show cmpVal .ne (.tup (xs.map .int)) (.tup (ys.map .int)) st = (eqVal (.tup (xs.map .int)) (.tup (ys.map .int)) st).map (!·) from rfl, eq_tups]; rfl
theorem in_ints {x : Int} {ys : List Int} : inVal (.int x) (.lst (ys.map .int)) st = some (decide (x ∈ ys)) := by
  have h : ∀ {l : List Int}, (l.map Val.int).all flat = true := fun {l} => by induction l <;> simp_all [flat]
  have e : ∀ {l : List Int}, ((l.map Val.int).any fun z => eqFlat z (.int x)) = decide (x ∈ l) := fun {l} => by
    induction l with
    | nil => rfl
    | cons y r ih =>
      rw [List.map_cons, List.any_cons, ih]
      show ((y == x) || decide (x ∈ r)) = _
      by_cases hy : y = x
      · subst hy; simp
      · have : ¬ x = y := fun e => hy e.symm
        simp [hy, this]
  unfold inVal dctOf tupOf lstOf
  dsimp only
  rw [show flat (Val.int x) = true from rfl, h, Bool.and_self, if_pos rfl, e]
theorem blt_tuple {xs : List Val} {b : Bool} {Q : Val → Store → Prop} : wp (bltVal b .tuple [.lst xs]) st Q ↔ Q (.tup xs) st := by
  unfold bltVal
  rw [wp_look]
  simp [tupOf, lstOf]
theorem blt_listF {v : Val} {xs : List Val} {Q : Val → Store → Prop} (h : seqOf st v = some xs) : wp (bltVal false .list [v]) st Q ↔ Q (.lst xs) st := by
  rw [show bltVal false .list [v] = (do let xs ← look fun st => seqOf st v; mkLst false xs) from rfl, wp_bind, wp_look]
  simp only [h, ex_some, wp_mkF]
theorem intsOf_map : ∀ {xs : List Int}, intsOf (xs.map .int) = some xs
  | [] => rfl
  | x :: xs => by rw [List.map_cons]; unfold intsOf; rw [intsOf_map]; rfl
theorem blt_sum {xs : List Int} {b : Bool} {Q : Val → Store → Prop} : wp (bltVal b .sum [.lst (xs.map .int)]) st Q ↔ Q (.int xs.sum) st := by
  unfold bltVal
  rw [wp_look]
  simp [lstOf, intsOf_map]
end
end Mn

end

section
set_option maxHeartbeats 4000000
/-! Mn: a run with more cells below, and with more room, is the same run. -/
namespace Mn
open PySem
section
variable (k : Nat)
mutual
def sh : Val → Val
  | .ref i => .ref (i + k)
  | .tup xs => .tup (shL xs)
  | .lst xs => .lst (shL xs)
  | .dct kvs => .dct (shD kvs)
  | .ktup xs => .ktup (shL xs)
  | .klst xs => .klst (shL xs)
  | .kdct kvs => .kdct (shK kvs)
  | v => v
def shL : List Val → List Val
  | [] => []
  | x :: xs => sh x :: shL xs
def shD : List (Val × Val) → List (Val × Val)
  | [] => []
  | (a, x) :: xs => (a, sh x) :: shD xs
def shK : List (Str × Val) → List (Str × Val)
  | [] => []
  | (a, x) :: xs => (a, sh x) :: shK xs
end
def shO : Obj → Obj
  | .lst xs => .lst (shL k xs)
  | .dct kvs => .dct (shD k kvs)
  | .ins C fs => .ins C (shK k fs)
end
section
variable {k : Nat}
theorem shL_map : ∀ xs : List Val, shL k xs = xs.map (sh k)
  | [] => rfl
  | x :: xs => by rw [shL, shL_map xs]; rfl
theorem shK_map : ∀ xs : List (Str × Val), shK k xs = xs.map fun q => (q.1, sh k q.2)
  | [] => rfl
  | (a, x) :: xs => by rw [shK, shK_map xs]; rfl
theorem shD_map : ∀ xs : List (Val × Val), shD k xs = xs.map fun q => (q.1, sh k q.2)
  | [] => rfl
  | (a, x) :: xs => by rw [shD, shD_map xs]; rfl
theorem sh_key {v : Val} (h : isKey v = true) : sh k v = v := by cases v <;> first | rfl | exact absurd h Bool.false_ne_true
theorem key_sh {v : Val} : isKey (sh k v) = isKey v := by cases v <;> rfl
theorem keyOk_sh {v : Val} : keyOk (sh k v) = keyOk v := key_sh
theorem flat_sh {v : Val} : flat (sh k v) = flat v := by cases v <;> rfl
theorem sh_flat {v : Val} (h : flat v = true) : sh k v = v := by cases v <;> first | rfl | exact absurd h Bool.false_ne_true
theorem getK_sh {x : Val} : ∀ kvs : List (Val × Val), getK (shD k kvs) x = (getK kvs x).map (sh k)
  | [] => rfl
  | (a, v) :: r => by
    have ih := getK_sh (x := x) r
    unfold getK at ih ⊢
    rw [shD, List.find?_cons, List.find?_cons]
    by_cases h : a = x
    · subst h; simp
    · simp only [h, decide_false]; exact ih
theorem getF_sh {f : Str} : ∀ fs : List (Str × Val), getF (shK k fs) f = (getF fs f).map (sh k)
  | [] => rfl
  | (g, v) :: r => by
    rw [shK, getF, getF]
    split
    · rfl
    · exact getF_sh r
theorem putFv_sh {f : Str} {v : Val} : ∀ fs : List (Str × Val), putFv f (sh k v) (shK k fs) = shK k (putFv f v fs)
  | [] => rfl
  | (g, x) :: r => by
    rw [shK, putFv, putFv]
    split
    · rfl
    · rw [shK, putFv_sh r]
theorem any_sh {x : Val} (kvs : List (Val × Val)) : ((shD k kvs).any fun q => decide (q.1 = x)) = kvs.any fun q => decide (q.1 = x) := by
  rw [shD_map, List.any_map]; rfl
theorem putKv_sh {x v : Val} (kvs : List (Val × Val)) : putKv (shD k kvs) x (sh k v) = shD k (putKv kvs x v) := by
  unfold putKv
  rw [any_sh]
  split
  · rw [shD_map, shD_map, List.map_map, List.map_map]
    apply List.map_congr_left
    rintro ⟨a, b⟩ _
    simp only [Function.comp_apply]
    split <;> rfl
  · rw [shD_map, shD_map, List.map_append]; rfl
theorem mergeKv_sh : ∀ (more kvs : List (Val × Val)), mergeKv (shD k kvs) (shD k more) = shD k (mergeKv kvs more)
  | [], kvs => rfl
  | (a, v) :: r, kvs => by
    have ih := mergeKv_sh r (putKv kvs a v)
    unfold mergeKv at ih ⊢
    rw [shD, List.foldl_cons, List.foldl_cons]
    dsimp only
    rw [putKv_sh]
    exact ih
theorem pairUp_sh : ∀ vs : List Val, (∀ kvs, pairUp vs = some kvs → kvs.all (fun q => isKey q.1) = true → pairUp (shL k vs) = some (shD k kvs))
  | [], kvs, h, _ => by cases h; rfl
  | [_], kvs, h, _ => by cases h
  | a :: b :: r, kvs, h, hk => by
    unfold pairUp at h
    obtain ⟨l, h1, rfl⟩ := Option.map_eq_some_iff.mp h
    rw [List.all_cons, Bool.and_eq_true] at hk
    rw [shL, shL, pairUp, pairUp_sh r l h1 hk.2, sh_key hk.1]
    rfl
mutual
theorem toPy_sh : ∀ v : Val, toPy (sh k v) = toPy v
  | .non => rfl
  | .bl _ => rfl
  | .int _ => rfl
  | .str _ => rfl
  | .tup xs => by rw [sh, toPy, toPy, toPyL_sh xs]
  | .lst xs => by rw [sh, toPy, toPy, toPyL_sh xs]
  | .dct _ => by rw [sh, toPy, toPy] <;> intros <;> first | (intro h; cases h) | contradiction
  | .ktup xs => by rw [sh, toPy, toPy, toPyL_sh xs]
  | .klst xs => by rw [sh, toPy, toPy, toPyL_sh xs]
  | .kdct _ => by rw [sh, toPy, toPy] <;> intros <;> first | (intro h; cases h) | contradiction
  | .ref _ => by rw [sh, toPy, toPy] <;> intros <;> first | (intro h; cases h) | contradiction
  | .fn _ => rfl
theorem toPyL_sh : ∀ v : List Val, toPyL (shL k v) = toPyL v
  | [] => rfl
  | x :: xs => by rw [shL, toPyL, toPyL, toPy_sh x, toPyL_sh xs]
end
theorem intsOf_sh : ∀ xs : List Val, intsOf (shL k xs) = intsOf xs
  | [] => rfl
  | x :: xs => by rw [shL]; cases x <;> simp only [sh, intsOf, intsOf_sh xs]
theorem blsOf_sh : ∀ xs : List Val, blsOf (shL k xs) = blsOf xs
  | [] => rfl
  | x :: xs => by rw [shL]; cases x <;> simp only [sh, blsOf, blsOf_sh xs]
theorem eqFlat_sh {a b : Val} : eqFlat (sh k a) (sh k b) = eqFlat a b := by cases a <;> cases b <;> rfl
mutual
theorem old_sh {n : Nat} : ∀ v : Val, old (n + k) (sh k v) = old n v
  | .non => rfl
  | .bl _ => rfl
  | .int _ => rfl
  | .str _ => rfl
  | .tup xs => by rw [sh, old, old, oldL_sh xs]
  | .lst xs => by rw [sh, old, old, oldL_sh xs]
  | .dct xs => by rw [sh, old, old, oldD_sh xs]
  | .ktup xs => by rw [sh, old, old, oldL_sh xs]
  | .klst xs => by rw [sh, old, old, oldL_sh xs]
  | .kdct xs => by rw [sh, old, old, oldK_sh xs]
  | .ref i => by rw [sh, old, old]; simp
  | .fn _ => rfl
theorem oldL_sh {n : Nat} : ∀ v : List Val, oldL (n + k) (shL k v) = oldL n v
  | [] => rfl
  | x :: xs => by rw [shL, oldL, oldL, old_sh x, oldL_sh xs]
theorem oldD_sh {n : Nat} : ∀ v : List (Val × Val), oldD (n + k) (shD k v) = oldD n v
  | [] => rfl
  | (a, x) :: xs => by rw [shD, oldD, oldD, old_sh x, oldD_sh xs]
theorem oldK_sh {n : Nat} : ∀ v : List (Str × Val), oldK (n + k) (shK k v) = oldK n v
  | [] => rfl
  | (a, x) :: xs => by rw [shK, oldK, oldK, old_sh x, oldK_sh xs]
end
theorem oldF_K {n : Nat} : ∀ v : List (Str × Val), oldF n v = oldK n v
  | [] => rfl
  | (a, x) :: xs => by rw [oldF, oldK, oldF_K xs]
theorem oldO_sh {n : Nat} (o : Obj) : oldO (n + k) (shO k o) = oldO n o := by
  cases o with
  | lst xs => exact oldL_sh xs
  | dct xs => exact oldD_sh xs
  | ins C fs => show oldF _ _ = oldF _ _; rw [oldF_K, oldF_K]; exact oldK_sh fs
mutual
theorem old_mono {n m : Nat} (h : n ≤ m) : ∀ v : Val, old n v = true → old m v = true
  | .non, _ => rfl
  | .bl _, _ => rfl
  | .int _, _ => rfl
  | .str _, _ => rfl
  | .tup xs, e => by rw [old] at e ⊢; exact oldL_mono h xs e
  | .lst xs, e => by rw [old] at e ⊢; exact oldL_mono h xs e
  | .dct xs, e => by rw [old] at e ⊢; exact oldD_mono h xs e
  | .ktup xs, e => by rw [old] at e ⊢; exact oldL_mono h xs e
  | .klst xs, e => by rw [old] at e ⊢; exact oldL_mono h xs e
  | .kdct xs, e => by rw [old] at e ⊢; exact oldK_mono h xs e
  | .ref i, e => by rw [old, decide_eq_true_eq] at e ⊢; omega
  | .fn _, _ => rfl
theorem oldL_mono {n m : Nat} (h : n ≤ m) : ∀ v : List Val, oldL n v = true → oldL m v = true
  | [], _ => rfl
  | x :: xs, e => by rw [oldL, Bool.and_eq_true] at e ⊢; exact ⟨old_mono h x e.1, oldL_mono h xs e.2⟩
theorem oldD_mono {n m : Nat} (h : n ≤ m) : ∀ v : List (Val × Val), oldD n v = true → oldD m v = true
  | [], _ => rfl
  | (a, x) :: xs, e => by rw [oldD, Bool.and_eq_true] at e ⊢; exact ⟨old_mono h x e.1, oldD_mono h xs e.2⟩
theorem oldK_mono {n m : Nat} (h : n ≤ m) : ∀ v : List (Str × Val), oldK n v = true → oldK m v = true
  | [], _ => rfl
  | (a, x) :: xs, e => by rw [oldK, Bool.and_eq_true] at e ⊢; exact ⟨old_mono h x e.1, oldK_mono h xs e.2⟩
end
theorem oldO_mono {n m : Nat} (h : n ≤ m) {o : Obj} (e : oldO n o = true) : oldO m o = true := by
  cases o with
  | lst xs => exact oldL_mono h xs e
  | dct xs => exact oldD_mono h xs e
  | ins C fs =>
    have e : oldF n fs = true := e
    show oldF m fs = true
    rw [oldF_K] at e ⊢
    exact oldK_mono h fs e
/-! ### closed values -/
mutual
theorem sh_old0 : ∀ v : Val, old 0 v = true → sh k v = v
  | .non, _ => rfl
  | .bl _, _ => rfl
  | .int _, _ => rfl
  | .str _, _ => rfl
  | .tup xs, e => by rw [old] at e; rw [sh, shL_old0 xs e]
  | .lst xs, e => by rw [old] at e; rw [sh, shL_old0 xs e]
  | .dct xs, e => by rw [old] at e; rw [sh, shD_old0 xs e]
  | .ktup xs, e => by rw [old] at e; rw [sh, shL_old0 xs e]
  | .klst xs, e => by rw [old] at e; rw [sh, shL_old0 xs e]
  | .kdct xs, e => by rw [old] at e; rw [sh, shK_old0 xs e]
  | .ref i, e => by rw [old, decide_eq_true_eq] at e; omega
  | .fn _, _ => rfl
theorem shL_old0 : ∀ v : List Val, oldL 0 v = true → shL k v = v
  | [], _ => rfl
  | x :: xs, e => by rw [oldL, Bool.and_eq_true] at e; rw [shL, sh_old0 x e.1, shL_old0 xs e.2]
theorem shD_old0 : ∀ v : List (Val × Val), oldD 0 v = true → shD k v = v
  | [], _ => rfl
  | (a, x) :: xs, e => by rw [oldD, Bool.and_eq_true] at e; rw [shD, sh_old0 x e.1, shD_old0 xs e.2]
theorem shK_old0 : ∀ v : List (Str × Val), oldK 0 v = true → shK k v = v
  | [], _ => rfl
  | (a, x) :: xs, e => by rw [oldK, Bool.and_eq_true] at e; rw [shK, sh_old0 x e.1, shK_old0 xs e.2]
end
end

/-! ### stores -/
section
variable {base : Store}
/-- the store with the cells below -/
def up (base st : Store) : Store := base ++ st.map (shO base.length)
theorem up_len {st : Store} : (up base st).length = st.length + base.length := by simp [up, Nat.add_comm]
theorem up_get {st : Store} {i : Nat} : (up base st)[i + base.length]? = (st[i]?).map (shO base.length) := by
  unfold up
  rw [List.getElem?_append_right (by omega), Nat.add_sub_cancel, List.getElem?_map]
theorem up_set {st : Store} {i : Nat} {o : Obj} : (up base st).set (i + base.length) (shO base.length o) = up base (st.set i o) := by
  unfold up
  rw [List.set_append_right _ _ (by omega), Nat.add_sub_cancel, List.map_set]
theorem up_push {st : Store} {o : Obj} : up base st ++ [shO base.length o] = up base (st ++ [o]) := by simp [up]
theorem up_take {st : Store} {n : Nat} : (up base st).take (n + base.length) = up base (st.take n) := by
  unfold up
  rw [List.take_append, List.take_of_length_le (by omega), Nat.add_sub_cancel, List.map_take]
theorem lstOf_up {st : Store} {v : Val} : lstOf (up base st) (sh base.length v) = (lstOf st v).map (shL base.length) := by
  cases v <;> try rfl
  rename_i i
  simp only [sh, lstOf, up_get]
  cases st[i]? with
  | none => rfl
  | some o => cases o <;> rfl
theorem ownLst_up {st : Store} {v : Val} : ownLst (up base st) (sh base.length v) = (ownLst st v).map (shL base.length) := by
  have h := lstOf_up (base := base) (st := st) (v := v)
  cases v <;> first | rfl | exact h
theorem tupOf_sh {v : Val} : tupOf (sh base.length v) = (tupOf v).map (shL base.length) := by cases v <;> rfl
theorem ownTup_sh {v : Val} : ownTup (sh base.length v) = (ownTup v).map (shL base.length) := by cases v <;> rfl
theorem dctOf_up {st : Store} {v : Val} : dctOf (up base st) (sh base.length v) = (dctOf st v).map (shD base.length) := by
  cases v <;> try rfl
  rename_i i
  simp only [sh, dctOf, up_get]
  cases st[i]? with
  | none => rfl
  | some o => cases o <;> rfl
theorem seqOf_up {st : Store} {v : Val} : seqOf (up base st) (sh base.length v) = (seqOf st v).map (shL base.length) := by
  unfold seqOf
  rw [tupOf_sh]
  cases tupOf v with
  | none => exact lstOf_up
  | some xs => rfl
def shI (k : Nat) (r : Nat × Str × List (Str × Val)) : Nat × Str × List (Str × Val) := (r.1 + k, r.2.1, shK k r.2.2)
theorem insOf_up {st : Store} {v : Val} : insOf (up base st) (sh base.length v) = (insOf st v).map (shI base.length) := by
  cases v <;> try rfl
  rename_i i
  simp only [sh, insOf, up_get]
  cases st[i]? with
  | none => rfl
  | some o => cases o <;> rfl
theorem deref_up {st : Store} {v : Val} : deref (up base st) (sh base.length v) = sh base.length (deref st v) := by
  cases v <;> try rfl
  rename_i i
  simp only [sh, deref, up_get]
  cases st[i]? with
  | none => rfl
  | some o => cases o <;> rfl
theorem atI_sh {xs : List Val} {i : Int} : L2.atI (shL base.length xs) i = (L2.atI xs i).map (sh base.length) := by
  unfold L2.atI
  rw [shL_map, List.length_map]
  cases L2.ixN xs.length i with
  | none => rfl
  | some j => simp
theorem len_shL {k : Nat} {xs : List Val} : (shL k xs).length = xs.length := by rw [shL_map, List.length_map]
theorem shL_append {k : Nat} {xs ys : List Val} : shL k (xs ++ ys) = shL k xs ++ shL k ys := by simp only [shL_map, List.map_append]
theorem len_shD {k : Nat} {xs : List (Val × Val)} : (shD k xs).length = xs.length := by rw [shD_map, List.length_map]
theorem binop_up {o : Op} {a b : Val} {st : Store} : ∀ v, binop o a b st = some v → binop o (sh base.length a) (sh base.length b) (up base st) = some (sh base.length v) := by
  have gen : ∀ v, (match o with
    | .add => (match ownTup a with
      | some xs => (match ownTup b with
        | some ys => if xs.length + ys.length ≤ sizeLine then some (.tup (xs ++ ys)) else none
        | none => none)
      | none => match ownLst st a with
        | some xs => (match ownLst st b with
          | some ys => if xs.length + ys.length ≤ sizeLine then some (.lst (xs ++ ys)) else none
          | none => none)
        | none => none)
    | .mul => (match ownLst st a with
      | some xs => (match b with
        | .int k => if decide (-(2 ^ 63) ≤ k) && (decide (k < 2 ^ 63) && decide (xs.length * k.toNat ≤ sizeLine)) then some (.lst (List.replicate k.toNat xs).flatten) else none
        | _ => none)
      | none => none)
    | _ => none : Option Val) = some v → (match o with
    | .add => (match ownTup (sh base.length a) with
      | some xs => (match ownTup (sh base.length b) with
        | some ys => if xs.length + ys.length ≤ sizeLine then some (.tup (xs ++ ys)) else none
        | none => none)
      | none => match ownLst (up base st) (sh base.length a) with
        | some xs => (match ownLst (up base st) (sh base.length b) with
          | some ys => if xs.length + ys.length ≤ sizeLine then some (.lst (xs ++ ys)) else none
          | none => none)
        | none => none)
    | .mul => (match ownLst (up base st) (sh base.length a) with
      | some xs => (match sh base.length b with
        | .int k => if decide (-(2 ^ 63) ≤ k) && (decide (k < 2 ^ 63) && decide (xs.length * k.toNat ≤ sizeLine)) then some (.lst (List.replicate k.toNat xs).flatten) else none
        | _ => none)
      | none => none)
    | _ => none : Option Val) = some (sh base.length v) := by
    intro v
    rw [ownTup_sh, ownTup_sh, ownLst_up, ownLst_up]
    cases o <;> dsimp only <;> try (intro h; cases h; done)
    · cases ownTup a with
      | some xs =>
        cases ownTup b with
        | some ys =>
          simp only [Option.map_some, len_shL]
          split
          · intro h; cases h; simp only [sh, shL_append]
          · intro h; cases h
        | none => intro h; cases h
      | none =>
        cases ownLst st a with
        | some xs =>
          cases ownLst st b with
          | some ys =>
            simp only [Option.map_some, Option.map_none, len_shL]
            split
            · intro h; cases h; simp only [sh, shL_append]
            · intro h; cases h
          | none => intro h; cases h
        | none => intro h; cases h
    · cases ownLst st a with
      | some xs =>
        cases b <;> simp only [Option.map_some, len_shL, sh] <;> try (intro h; cases h; done)
        split
        · intro h; cases h
          simp only [sh, shL_map, List.map_flatten, List.map_replicate]
        · intro h; cases h
      | none => intro h; cases h
  intro v h
  cases a <;> cases b <;> first | (unfold binop at h ⊢; exact gen v h) | skip
  · simp only [sh, binop] at h ⊢
    obtain ⟨i, h1, rfl⟩ := Option.map_eq_some_iff.mp h
    rw [h1]; rfl
  · simp only [sh, binop] at h ⊢
    split at h
    · rename_i hc
      cases h; rw [if_pos hc]; rfl
    · cases h
theorem eqVal_up {a b : Val} {st : Store} : eqVal (sh base.length a) (sh base.length b) (up base st) = eqVal a b st := by
  unfold eqVal
  rw [deref_up, deref_up, toPy_sh, toPy_sh]
theorem all_flat_sh {k : Nat} (xs : List Val) : (shL k xs).all flat = xs.all flat := by
  rw [shL_map, List.all_map]
  congr 1
  funext x
  exact flat_sh
theorem any_eqFlat_sh {k : Nat} (xs : List Val) (x : Val) : (shL k xs).any (fun z => eqFlat z (sh k x)) = xs.any fun z => eqFlat z x := by
  rw [shL_map, List.any_map]
  congr 1
  funext z
  exact eqFlat_sh
theorem inVal_up {x y : Val} {st : Store} : inVal (sh base.length x) (sh base.length y) (up base st) = inVal x y st := by
  have gen : (match dctOf (up base st) (sh base.length y) with
    | some kvs => if keyOk (sh base.length x) then some (getK kvs (sh base.length x)).isSome else none
    | none => match tupOf (sh base.length y) with
      | some ys => if flat (sh base.length x) && ys.all flat then some (ys.any fun z => eqFlat z (sh base.length x)) else none
      | none => match lstOf (up base st) (sh base.length y) with
        | some ys => if flat (sh base.length x) && ys.all flat then some (ys.any fun z => eqFlat z (sh base.length x)) else
          (match toPy (sh base.length x) with
          | some d => (match toPyL ys with
            | some ds => if SeqAt.shaped d && SeqAt.shaped (.list ds) then some (ds.any fun z => PyData.eqv z d) else none
            | none => none)
          | none => none)
        | none => none : Option Bool) = (match dctOf st y with
    | some kvs => if keyOk x then some (getK kvs x).isSome else none
    | none => match tupOf y with
      | some ys => if flat x && ys.all flat then some (ys.any fun z => eqFlat z x) else none
      | none => match lstOf st y with
        | some ys => if flat x && ys.all flat then some (ys.any fun z => eqFlat z x) else
          (match toPy x with
          | some d => (match toPyL ys with
            | some ds => if SeqAt.shaped d && SeqAt.shaped (.list ds) then some (ds.any fun z => PyData.eqv z d) else none
            | none => none)
          | none => none)
        | none => none : Option Bool) := by
    rw [dctOf_up, tupOf_sh, lstOf_up, keyOk_sh, flat_sh, toPy_sh]
    cases dctOf st y with
    | some kvs =>
      simp only [Option.map_some]
      split
      · rename_i hk
        rw [sh_key hk, getK_sh, Option.isSome_map]
      · rfl
    | none =>
      simp only [Option.map_none]
      cases tupOf y with
      | some ys => simp only [Option.map_some, all_flat_sh, any_eqFlat_sh]
      | none =>
        simp only [Option.map_none]
        cases lstOf st y with
        | some ys => simp only [Option.map_some, all_flat_sh, any_eqFlat_sh, toPyL_sh]
        | none => rfl
  cases y <;> first | (unfold inVal; exact gen) | skip
  · cases x <;> rfl
  · cases x <;> simp only [sh, inVal, getF_sh, Option.isSome_map]
theorem is_sh {k : Nat} {a : Val} : decide (sh k a = .non) = decide (a = .non) := by cases a <;> simp [sh]
theorem cmpVal_up {o : Cm} {a b : Val} {st : Store} : cmpVal o (sh base.length a) (sh base.length b) (up base st) = cmpVal o a b st := by
  cases o
  case eq => exact eqVal_up
  case ne => show (eqVal _ _ _).map _ = (eqVal _ _ _).map _; rw [eqVal_up]
  case in_ => exact inVal_up
  case notin => show (inVal _ _ _).map _ = (inVal _ _ _).map _; rw [inVal_up]
  case is_ =>
    cases b
    case non => simp only [cmpVal, sh, is_sh]
    case bl y => cases a <;> rfl
    all_goals cases a <;> rfl
  case isnot =>
    cases b
    case non => simp only [cmpVal, sh, is_sh]
    case bl y => cases a <;> rfl
    all_goals cases a <;> rfl
  all_goals cases a <;> cases b <;> rfl
theorem truthy_up {v : Val} {st : Store} : truthy (sh base.length v) (up base st) = truthy v st := by
  have gen : (match seqOf (up base st) (sh base.length v) with
    | some xs => some !xs.isEmpty
    | none => (dctOf (up base st) (sh base.length v)).map fun kvs => !kvs.isEmpty : Option Bool) = (match seqOf st v with
    | some xs => some !xs.isEmpty
    | none => (dctOf st v).map fun kvs => !kvs.isEmpty : Option Bool) := by
    rw [seqOf_up, dctOf_up]
    cases seqOf st v with
    | some xs => simp [shL_map]
    | none => cases dctOf st v <;> simp [shD_map]
  cases v <;> first | rfl | (unfold truthy; exact gen)
theorem idxVal_up {a i : Val} {st : Store} : idxVal (sh base.length a) (sh base.length i) (up base st) = (idxVal a i st).map (sh base.length) := by
  have gen : (match dctOf (up base st) (sh base.length a) with
    | some kvs => if keyOk (sh base.length i) then getK kvs (sh base.length i) else none
    | none => match sh base.length i with
      | .int k => (seqOf (up base st) (sh base.length a)).bind fun xs => L2.atI xs k
      | _ => none : Option Val) = (match dctOf st a with
    | some kvs => if keyOk i then getK kvs i else none
    | none => match i with
      | .int k => (seqOf st a).bind fun xs => L2.atI xs k
      | _ => none : Option Val).map (sh base.length) := by
    rw [dctOf_up, keyOk_sh, seqOf_up]
    cases dctOf st a with
    | some kvs =>
      simp only [Option.map_some]
      split
      · rename_i hk; rw [sh_key hk, getK_sh]
      · rfl
    | none =>
      cases i <;> try rfl
      simp only [Option.map_none, sh]
      cases seqOf st a with
      | none => rfl
      | some xs => simp only [Option.map_some, Option.bind_some, atI_sh]
  cases a <;> first | (unfold idxVal; exact gen) | skip
  · cases i <;> try rfl
    simp only [sh, idxVal]
    split
    · cases L2.atI _ _ <;> rfl
    · rfl
  · cases i <;> try rfl
    simp only [sh, idxVal, getF_sh]
def shC (k : Nat) : Cut → Cut
  | .v v => .v (sh k v)
  | .l xs => .l (shL k xs)
theorem cutL_sh {k : Nat} {xs : List Val} {lo hi : Option Int} : cutL (shL k xs) lo hi = shL k (cutL xs lo hi) := by
  unfold cutL
  rw [len_shL, shL_map, shL_map, List.map_take, List.map_drop]
theorem slcVal_up {a : Val} {lo hi : Option Int} {st : Store} : slcVal (sh base.length a) lo hi (up base st) = (slcVal a lo hi st).map (shC base.length) := by
  have gen : (match ownTup (sh base.length a) with
    | some xs => some (.v (.tup (cutL xs lo hi)))
    | none => (lstOf (up base st) (sh base.length a)).map fun xs => .l (cutL xs lo hi) : Option Cut) = (match ownTup a with
    | some xs => some (.v (.tup (cutL xs lo hi)))
    | none => (lstOf st a).map fun xs => .l (cutL xs lo hi) : Option Cut).map (shC base.length) := by
    rw [ownTup_sh, lstOf_up]
    cases ownTup a with
    | some xs => simp only [Option.map_some, cutL_sh, shC, sh]
    | none => cases lstOf st a <;> simp [cutL_sh, shC]
  cases a <;> first | (unfold slcVal; exact gen) | skip
  simp only [sh, slcVal]
  split <;> rfl
theorem isTy_up {v : Val} {T : Str} {st : Store} : isTy (up base st) (sh base.length v) T = isTy st v T := by
  cases v <;> try rfl
  rename_i i
  simp only [sh, isTy, up_get]
  cases st[i]? with
  | none => rfl
  | some o => cases o <;> rfl
def shW (k : Nat) (w : Walked) : Walked := ⟨shL k w.items, w.cell.map (· + k), w.back⟩
theorem walkOf_up {v : Val} {st : Store} : walkOf (sh base.length v) (up base st) = (walkOf v st).map (shW base.length) := by
  have gen : ((seqOf (up base st) (sh base.length v)).bind fun xs => if xs.length ≤ sizeLine then some (⟨xs, none, false⟩ : Walked) else none) = ((seqOf st v).bind fun xs => if xs.length ≤ sizeLine then some (⟨xs, none, false⟩ : Walked) else none).map (shW base.length) := by
    rw [seqOf_up]
    cases seqOf st v with
    | none => rfl
    | some xs =>
      simp only [Option.map_some, Option.bind_some, len_shL]
      split <;> rfl
  cases v <;> first | (unfold walkOf; exact gen) | skip
  · simp only [sh, walkOf, Option.map_some, shW, shL_map, List.map_map]; rfl
  · rename_i i
    simp only [sh, walkOf, up_get]
    cases st[i]? with
    | none => rfl
    | some o =>
      cases o <;> try rfl
      simp only [Option.map_some, shO, len_shL]
      split <;> rfl
theorem walkBack_up {v : Val} {st : Store} : walkBack (sh base.length v) (up base st) = (walkBack v st).map (shW base.length) := by
  have h := walkOf_up (base := base) (st := st) (v := v)
  have gen : ((walkOf (sh base.length v) (up base st)).map fun w => (⟨w.items.reverse, w.cell, true⟩ : Walked)) = ((walkOf v st).map fun w => (⟨w.items.reverse, w.cell, true⟩ : Walked)).map (shW base.length) := by
    rw [h]
    cases walkOf v st with
    | none => rfl
    | some w => simp [shW, shL_map]
  cases v <;> first | rfl | exact gen
theorem still_up {w : Walked} {st : Store} (h : w.still st = true) : (shW base.length w).still (up base st) = true := by
  obtain ⟨items, cell, back⟩ := w
  cases cell with
  | none => rfl
  | some i =>
    simp only [Walked.still, shW, Option.map_some, decide_eq_true_eq] at h ⊢
    rw [up_get, h]
    cases back <;> simp [shO, shL_map]

/-! ### the monad -/
variable (base) in
def shR {α : Type} (f : α → α) : Res α → Res α
  | .ok a st => .ok (f a) (up base st)
  | .exc C v st => .exc C (sh base.length v) (up base st)
  | .bad => .bad
/-- the same, with the cells below -/
def Sm1 {α : Type} (base : Store) (f : α → α) (m m' : M α) : Prop := ∀ st, m st ≠ .bad → m' (up base st) = shR base f (m st)
section
variable {α β : Type} {f : α → α} {g : β → β}
theorem Sm1.pure {a b : α} (h : b = f a) : Sm1 base f (pure a) (pure b) := fun st _ => by subst h; rfl
theorem Sm1.bad {m' : M α} : Sm1 base f Mn.bad m' := fun st h => absurd rfl h
theorem Sm1.bind {m m' : M α} {h h' : α → M β} (e : Sm1 base f m m') (k : ∀ a, Sm1 base g (h a) (h' (f a))) : Sm1 base g (m >>= h) (m' >>= h') := by
  intro st hb
  have e1 : (m >>= h) st = (match m st with | .ok a st' => h a st' | .exc c v st' => .exc c v st' | .bad => .bad) := rfl
  have e2 : (m' >>= h') (up base st) = (match m' (up base st) with | .ok a st' => h' a st' | .exc c v st' => .exc c v st' | .bad => .bad) := rfl
  rw [e1] at hb
  rw [e1, e2]
  cases q : m st with
  | ok a st1 =>
    rw [q] at hb
    have := e st (by rw [q]; intro z; cases z)
    rw [this, q]
    exact k a st1 hb
  | exc C v st1 =>
    have := e st (by rw [q]; intro z; cases z)
    rw [this, q]
    rfl
  | bad => rw [q] at hb; exact absurd rfl hb
theorem Sm1.lift {o o' : Option α} (h : ∀ a, o = some a → o' = some (f a)) : Sm1 base f (Mn.lift o) (Mn.lift o') := fun st hb => by
  cases o with
  | none => exact absurd rfl hb
  | some a => rw [h a rfl]; rfl
theorem Sm1.look {o o' : Store → Option α} (h : ∀ st a, o st = some a → o' (up base st) = some (f a)) : Sm1 base f (Mn.look o) (Mn.look o') := fun st hb => by
  unfold Mn.look at hb ⊢
  cases q : o st with
  | none => rw [q] at hb; exact absurd rfl hb
  | some a => rw [h st a q]; rfl
theorem Sm1.guard {b b' : Bool} (h : b = true → b' = true) : Sm1 base id (guardM b) (guardM b') := fun st hb => by
  cases b with
  | false => exact absurd rfl hb
  | true => rw [h rfl]; rfl
theorem Sm1.len {n n' : Nat} (h : n' = n) : Sm1 base id (lenOk n) (lenOk n') := by subst h; exact Sm1.guard fun h => h
theorem Sm1.alloc {o o' : Obj} (h : o' = shO base.length o) : Sm1 base (sh base.length) (Mn.alloc o) (Mn.alloc o') := fun st _ => by
  subst h
  show Res.ok (Val.ref (up base st).length) (up base st ++ [shO base.length o]) = Res.ok (Val.ref (st.length + base.length)) (up base (st ++ [o]))
  rw [up_len, up_push]
theorem Sm1.write {i : Nat} {o o' : Obj} (h : o' = shO base.length o) : Sm1 base id (Mn.write i o) (Mn.write (i + base.length) o') := fun st _ => by
  subst h
  show Res.ok () ((up base st).set (i + base.length) (shO base.length o)) = Res.ok () (up base (st.set i o))
  rw [up_set]
theorem Sm1.ifb {t : Bool} {m n m' n' : M α} (h1 : Sm1 base f m m') (h2 : Sm1 base f n n') : Sm1 base f (match t with | true => m | false => n) (match t with | true => m' | false => n') := by cases t <;> assumption
theorem Sm1.still {w : Walked} : Sm1 base id (stillM w) (stillM (shW base.length w)) := fun st hb => by
  unfold stillM at hb ⊢
  cases q : w.still st with
  | false => rw [q] at hb; exact absurd rfl hb
  | true => rw [still_up q]; rfl
theorem Sm1.mkLst {c : Bool} {xs xs' : List Val} (h : xs' = shL base.length xs) : Sm1 base (sh base.length) (Mn.mkLst c xs) (Mn.mkLst c xs') := by
  subst h
  cases c
  · exact Sm1.pure rfl
  · exact Sm1.alloc rfl
theorem Sm1.mkDct {c : Bool} {xs xs' : List (Val × Val)} (h : xs' = shD base.length xs) : Sm1 base (sh base.length) (Mn.mkDct c xs) (Mn.mkDct c xs') := by
  subst h
  cases c
  · exact Sm1.pure rfl
  · exact Sm1.alloc rfl
theorem Sm1.cutM {c : Bool} {x x' : Cut} (h : x' = shC base.length x) : Sm1 base (sh base.length) (Mn.cutM c x) (Mn.cutM c x') := by
  subst h
  cases x
  · exact Sm1.pure rfl
  · exact Sm1.mkLst rfl
end
def shE (k : Nat) (ρ : Env) : Env := ρ.map fun o => o.map (sh k)
theorem getVar_sh {k : Nat} {ρ : Env} {i : Nat} : getVar (shE k ρ) i = (getVar ρ i).map (sh k) := by
  unfold getVar shE
  rw [List.getElem?_map]
  cases ρ[i]? with
  | none => rfl
  | some o => cases o <;> rfl
theorem set_sh {k : Nat} {ρ : Env} {i : Nat} {v : Val} : (shE k ρ).set i (some (sh k v)) = shE k (ρ.set i (some v)) := by
  unfold shE; rw [List.map_set]; rfl
theorem setAll_sh {k : Nat} : ∀ {is : List Nat} {vs : List Val} {ρ : Env}, setAll is (shL k vs) (shE k ρ) = (setAll is vs ρ).map (shE k)
  | [], [], ρ => rfl
  | [], _ :: _, ρ => rfl
  | _ :: _, [], ρ => rfl
  | i :: is, v :: vs, ρ => by rw [shL, setAll, setAll, set_sh, setAll_sh]
theorem bindTg_sh {t : Tg} {v : Val} {ρ : Env} : bindTg t (sh base.length v) (shE base.length ρ) = (bindTg t v ρ).map (shE base.length) := by
  cases t with
  | nm i => simp only [bindTg, set_sh, Option.map_some]
  | nms is =>
    simp only [bindTg, tupOf_sh]
    cases tupOf v with
    | none => rfl
    | some xs => simp only [Option.map_some, Option.bind_some, setAll_sh]
theorem wipe_sh {k : Nat} {ρ : Env} : ∀ is : List Nat, wipeE (shE k ρ) is = shE k (wipeE ρ is)
  | [] => rfl
  | i :: is => by
    rw [wipeE, wipeE, wipe_sh is]
    unfold shE
    rw [List.map_set]; rfl
theorem rngVals_sh {k : Nat} {lo : Int} {n : Nat} : shL k (rngVals lo n) = rngVals lo n := by
  unfold rngVals
  rw [shL_map, List.map_map]; rfl
theorem rngOf_sh {k : Nat} : ∀ vs : List Val, rngOf (shL k vs) = rngOf vs
  | [] => rfl
  | [a] => by cases a <;> rfl
  | [a, b] => by cases a <;> cases b <;> rfl
  | a :: b :: c :: r => by cases a <;> cases b <;> rfl
theorem rngWalk_sh {k : Nat} : ∀ vs : List Val, rngWalk (shL k vs) = (rngWalk vs).map (shW k) := by
  have gen : ∀ vs : List Val, ((rngOf (shL k vs)).map fun r => (⟨rngVals r.1 r.2, none, false⟩ : Walked)) = ((rngOf vs).map fun r => (⟨rngVals r.1 r.2, none, false⟩ : Walked)).map (shW k) := by
    intro vs
    rw [rngOf_sh]
    cases rngOf vs with
    | none => rfl
    | some r => simp only [Option.map_some, shW, rngVals_sh]; rfl
  intro vs
  match vs with
  | [] => rfl
  | [a] => cases a <;> first | rfl | (rename_i i; exact gen [.int i])
  | [a, b] => cases a <;> cases b <;> first | rfl | (rename_i i j; exact gen [.int i, .int j])
  | [a, b, c] =>
    cases a <;> cases b <;> cases c <;> first
    | (simp only [shL, sh, rngWalk]
       split
       · simp only [Option.map_some, shW, shL_map, List.map_map]; rfl
       · rfl)
    | exact gen [_, _, _] | rfl
  | a :: b :: c :: d :: r => cases a <;> cases b <;> cases c <;> first | exact gen (_ :: _ :: _ :: _ :: _) | rfl
theorem bltVal_sh {c : Bool} {b : Bl} {vs : List Val} : Sm1 base (sh base.length) (bltVal c b vs) (bltVal c b (shL base.length vs)) := by
  match vs with
  | [] => cases b <;> exact Sm1.bad
  | x :: y :: z :: r => cases b <;> cases x <;> cases y <;> exact Sm1.bad
  | [x, y] =>
    cases b <;> first | exact Sm1.bad | skip
    all_goals cases x <;> cases y <;> first | exact Sm1.bad | exact Sm1.pure rfl
  | [v] =>
    cases b <;> first | exact Sm1.bad | skip
    case max2 => cases v <;> exact Sm1.bad
    case min2 => cases v <;> exact Sm1.bad
    case len =>
      have gen : Sm1 base (sh base.length) (look fun st => match seqOf st v with
          | some xs => some (.int xs.length)
          | none => (dctOf st v).map fun kvs => .int kvs.length) (look fun st => match seqOf st (sh base.length v) with
          | some xs => some (.int xs.length)
          | none => (dctOf st (sh base.length v)).map fun kvs => .int kvs.length) := Sm1.look fun st a h => by
        rw [seqOf_up, dctOf_up]
        cases q : seqOf st v with
        | some xs => rw [q] at h; cases h; simp [len_shL, sh]
        | none =>
          rw [q] at h
          obtain ⟨kvs, h1, rfl⟩ := Option.map_eq_some_iff.mp h
          simp [h1, len_shD, sh]
      cases v <;> first | exact gen | skip
      refine Sm1.look fun st a h => ?_
      simp only [sh] at h ⊢
      split at h
      · rename_i hc
        cases h; rw [if_pos hc]; rfl
      · cases h
    case abs => cases v <;> first | exact Sm1.bad | exact Sm1.pure rfl
    case int => cases v <;> first | exact Sm1.bad | exact Sm1.pure rfl
    case list =>
      refine Sm1.bind (f := shL base.length) (Sm1.look fun st a h => ?_) fun xs => Sm1.mkLst rfl
      rw [seqOf_up, h]; rfl
    case tuple =>
      refine Sm1.look fun st a h => ?_
      rw [tupOf_sh, lstOf_up]
      cases q : tupOf v with
      | some xs => rw [q] at h; cases h; rfl
      | none =>
        rw [q] at h
        obtain ⟨xs, h1, rfl⟩ := Option.map_eq_some_iff.mp h
        simp [h1, sh]
    case sum =>
      refine Sm1.look fun st a h => ?_
      obtain ⟨xs, h1, h2⟩ := Option.bind_eq_some_iff.mp h
      obtain ⟨ns, h3, rfl⟩ := Option.map_eq_some_iff.mp h2
      rw [lstOf_up, h1, Option.map_some, Option.bind_some, intsOf_sh, h3]; rfl
    case all =>
      refine Sm1.look fun st a h => ?_
      obtain ⟨xs, h1, h2⟩ := Option.bind_eq_some_iff.mp h
      obtain ⟨ns, h3, rfl⟩ := Option.map_eq_some_iff.mp h2
      rw [lstOf_up, h1, Option.map_some, Option.bind_some, blsOf_sh, h3]; rfl
    case any =>
      refine Sm1.look fun st a h => ?_
      obtain ⟨xs, h1, h2⟩ := Option.bind_eq_some_iff.mp h
      obtain ⟨ns, h3, rfl⟩ := Option.map_eq_some_iff.mp h2
      rw [lstOf_up, h1, Option.map_some, Option.bind_some, blsOf_sh, h3]; rfl
    case max1 =>
      refine Sm1.look fun st a h => ?_
      obtain ⟨xs, h1, h2⟩ := Option.bind_eq_some_iff.mp h
      obtain ⟨ns, h3, h4⟩ := Option.bind_eq_some_iff.mp h2
      rw [lstOf_up, h1, Option.map_some, Option.bind_some, intsOf_sh, h3, Option.bind_some]
      cases ns with
      | nil => cases h4
      | cons n r => cases h4; rfl
    case min1 =>
      refine Sm1.look fun st a h => ?_
      obtain ⟨xs, h1, h2⟩ := Option.bind_eq_some_iff.mp h
      obtain ⟨ns, h3, h4⟩ := Option.bind_eq_some_iff.mp h2
      rw [lstOf_up, h1, Option.map_some, Option.bind_some, intsOf_sh, h3, Option.bind_some]
      cases ns with
      | nil => cases h4
      | cons n r => cases h4; rfl
    case sorted =>
      refine Sm1.bind (f := shL base.length) (Sm1.look fun st a h => ?_) fun xs => Sm1.mkLst rfl
      obtain ⟨xs, h1, h2⟩ := Option.bind_eq_some_iff.mp h
      obtain ⟨ns, h3, rfl⟩ := Option.map_eq_some_iff.mp h2
      rw [lstOf_up, h1, Option.map_some, Option.bind_some, intsOf_sh, h3]
      rw [shL_map, List.map_map]; rfl
theorem bmKind_up {m : Bm} {v : Val} {st : Store} : bmKind m (sh base.length v) (up base st) = bmKind m v st := by
  have g1 : (dctOf (up base st) (sh base.length v)).isSome = (dctOf st v).isSome := by rw [dctOf_up, Option.isSome_map]
  have g2 : (lstOf (up base st) (sh base.length v)).isSome = (lstOf st v).isSome := by rw [lstOf_up, Option.isSome_map]
  cases m <;> first | exact g2 | skip
  all_goals cases v <;> first | rfl | exact g1
theorem cellL_up {st : Store} {i : Nat} {xs : List Val} (h : (match st[i]? with
    | some (.lst xs) => some xs
    | _ => none : Option (List Val)) = some xs) : (match (up base st)[i + base.length]? with
    | some (.lst xs) => some xs
    | _ => none : Option (List Val)) = some (shL base.length xs) := by
  rw [up_get]
  cases q : st[i]? with
  | none => rw [q] at h; cases h
  | some o =>
    rw [q] at h
    cases o <;> first | (cases h; done) | skip
    cases h; rfl
theorem map_eraseIdx' {α β : Type} {f : α → β} : ∀ {xs : List α} {j : Nat}, (xs.map f).eraseIdx j = (xs.eraseIdx j).map f
  | [], _ => rfl
  | x :: xs, 0 => rfl
  | x :: xs, j + 1 => by simp [map_eraseIdx' (xs := xs) (j := j)]
theorem bmVal_sh {m : Bm} {o : Val} {vs : List Val} : Sm1 base (sh base.length) (bmVal m o vs) (bmVal m (sh base.length o) (shL base.length vs)) := by
  match vs with
  | [] =>
    cases m <;> first | exact Sm1.bad | skip
    · cases o <;> first | exact Sm1.bad | skip
      refine Sm1.bind (f := shL base.length) (Sm1.look fun st a h => cellL_up h) fun xs => ?_
      refine Sm1.bind (f := sh base.length) (Sm1.lift fun a h => ?_) fun y => Sm1.bind (f := id) (Sm1.write ?_) fun _ => Sm1.pure rfl
      · rw [len_shL, shL_map, List.getElem?_map, h]; rfl
      · simp only [shO, shL_map, List.map_dropLast]
    · cases o <;> first | exact Sm1.bad | skip
      exact Sm1.bind (f := shL base.length) (Sm1.look fun st a h => cellL_up h) fun xs => Sm1.bind (f := id) (Sm1.write rfl) fun _ => Sm1.pure rfl
  | [y] =>
    cases m <;> first | exact Sm1.bad | skip
    · cases o <;> first | exact Sm1.bad | skip
      refine Sm1.bind (f := shL base.length) (Sm1.look fun st a h => ?_) fun xs => Sm1.bind (f := id) (Sm1.write ?_) fun _ => Sm1.pure rfl
      · rw [up_get]
        rename_i i
        cases q : st[i]? with
        | none => rw [q] at h; cases h
        | some o =>
          rw [q] at h
          cases o <;> first | (cases h; done) | skip
          dsimp only at h
          simp only [Option.map_some, shO, len_shL]
          split at h
          · rename_i hc; cases h; rw [if_pos hc]
          · cases h
      · simp only [shO, shL_append]; rfl
    · cases y <;> first | exact Sm1.bad | skip
      cases o <;> first | exact Sm1.bad | skip
      refine Sm1.bind (f := shL base.length) (Sm1.look fun st a h => cellL_up h) fun xs => Sm1.bind (f := id) (Sm1.guard fun h => h) fun _ => ?_
      refine Sm1.bind (f := id) (Sm1.lift fun a h => ?_) fun j => Sm1.bind (f := sh base.length) (Sm1.lift fun a h => ?_) fun y => Sm1.bind (f := id) (Sm1.write ?_) fun _ => Sm1.pure rfl
      · rw [len_shL]; exact h
      · rw [shL_map, List.getElem?_map]; simp only [id]; rw [h]; rfl
      · simp only [shO, shL_map, id]
        rw [map_eraseIdx']
    · cases o <;> first | exact Sm1.bad | skip
      refine Sm1.bind (f := shL base.length) (Sm1.look fun st a h => cellL_up h) fun xs => Sm1.bind (f := shL base.length) (Sm1.look fun st a h => ?_) fun ys => Sm1.bind (f := id) (Sm1.len ?_) fun _ => Sm1.bind (f := id) (Sm1.write ?_) fun _ => Sm1.pure rfl
      · rw [ownLst_up, h]; rfl
      · rw [len_shL, len_shL]
      · simp only [shO, shL_append]
    · have gen : Sm1 base (sh base.length) (look fun st => if keyOk y then (dctOf st o).map fun kvs => (getK kvs y).getD .non else none) (look fun st => if keyOk (sh base.length y) then (dctOf st (sh base.length o)).map fun kvs => (getK kvs (sh base.length y)).getD .non else none) := Sm1.look fun st a h => by
        rw [keyOk_sh]
        split at h
        · rename_i hk
          obtain ⟨kvs, h1, rfl⟩ := Option.map_eq_some_iff.mp h
          rw [if_pos hk, dctOf_up, h1, sh_key hk]
          simp only [Option.map_some, getK_sh]
          cases getK kvs y <;> rfl
        · cases h
      cases o <;> first | exact gen | skip
      cases y <;> first | exact Sm1.bad | skip
      refine Sm1.pure ?_
      rw [getF_sh]
      cases getF _ _ <;> rfl
  | [y, d] =>
    cases m <;> first | exact Sm1.bad | skip
    · have : ∀ (m : M Val), Sm1 base (sh base.length) (match o with | _ => Mn.bad : M Val) m := fun m => Sm1.bad
      cases y <;> exact Sm1.bad
    · have gen : Sm1 base (sh base.length) (look fun st => if keyOk y then (dctOf st o).map fun kvs => (getK kvs y).getD d else none) (look fun st => if keyOk (sh base.length y) then (dctOf st (sh base.length o)).map fun kvs => (getK kvs (sh base.length y)).getD (sh base.length d) else none) := Sm1.look fun st a h => by
        rw [keyOk_sh]
        split at h
        · rename_i hk
          obtain ⟨kvs, h1, rfl⟩ := Option.map_eq_some_iff.mp h
          rw [if_pos hk, dctOf_up, h1, sh_key hk]
          simp only [Option.map_some, getK_sh]
          cases getK kvs y <;> rfl
        · cases h
      cases o <;> first | exact gen | skip
      cases y <;> first | exact Sm1.bad | skip
      refine Sm1.pure ?_
      rw [getF_sh]
      cases getF _ _ <;> rfl
  | x :: y :: z :: r => cases m <;> cases x <;> exact Sm1.bad
end
end Mn

end

section
set_option maxHeartbeats 4000000
/-! Mn: a run with more cells below, and with more room, is the same run: expressions, statements, calls. -/
namespace Mn
open PySem
section
variable {base : Store}
structure CfS (base : Store) (c c' : Cf) : Prop where
  call : ∀ f vs, Sm1 base (sh base.length) (c.call f vs) (c'.call f (shL base.length vs))
  meth : ∀ C m vs, Sm1 base (sh base.length) (c.meth C m vs) (c'.meth C m (shL base.length vs))
  make : ∀ C vs, Sm1 base (sh base.length) (c.make C vs) (c'.make C (shL base.length vs))
  glob : ∀ x v, c.glob x = some v → c'.glob x = some (sh base.length v)
theorem compLoop_sh {w : Walked} {t : Tg} {ρ : Env} {ts ts' : Env → M Bool} {b b' : Env → M (List Val)} (ht : ∀ ρ, Sm1 base id (ts ρ) (ts' (shE base.length ρ))) (hb : ∀ ρ, Sm1 base (shL base.length) (b ρ) (b' (shE base.length ρ))) : ∀ xs : List Val,
    Sm1 base (shL base.length) (compLoop w t ρ ts b xs) (compLoop (shW base.length w) t (shE base.length ρ) ts' b' (shL base.length xs))
  | [] => Sm1.bind (f := id) Sm1.still fun _ => Sm1.pure rfl
  | x :: xs => by
    refine Sm1.bind (f := id) Sm1.still fun _ => Sm1.bind (f := shE base.length) (Sm1.lift fun a h => by rw [bindTg_sh, h]; rfl) fun ρ' => Sm1.bind (f := id) (ht ρ') fun t => ?_
    cases t
    · exact compLoop_sh ht hb xs
    · exact Sm1.bind (f := shL base.length) (hb ρ') fun ys => Sm1.bind (f := shL base.length) (compLoop_sh ht hb xs) fun zs => Sm1.pure shL_append.symm
theorem intO_sh {k : Nat} {o : Option Val} : intO (o.map (sh k)) = intO o := by
  cases o with
  | none => rfl
  | some v => cases v <;> rfl
theorem shL_reverse {k : Nat} {xs : List Val} : (shL k xs).reverse = shL k xs.reverse := by simp only [shL_map, List.map_reverse]
section
variable {c c' : Cf} (h : CfS base c c')
include h
mutual
theorem evalE_sh : ∀ (e : Ex) (ρ : Env), Sm1 base (sh base.length) (evalE c e ρ) (evalE c' e (shE base.length ρ))
  | .var i, ρ => by
    unfold evalE
    exact Sm1.lift fun a e => by rw [getVar_sh, e]; rfl
  | .cst v, ρ => by
    unfold evalE
    exact Sm1.lift fun a e => by
      split at e
      · rename_i hf; cases e; rw [if_pos hf, sh_flat hf]
      · cases e
  | .glo x, ρ => by
    unfold evalE
    exact Sm1.lift fun a e => h.glob x a e
  | .bad, ρ => by
    unfold evalE
    exact Sm1.bad
  | .tup es, ρ => by
    unfold evalE
    exact Sm1.bind (evalL_sh es ρ) fun vs => Sm1.bind (f := id) (Sm1.len len_shL) fun _ => Sm1.pure (by rw [sh])
  | .lst cell es, ρ => by
    unfold evalE
    exact Sm1.bind (evalL_sh es ρ) fun vs => Sm1.bind (f := id) (Sm1.len len_shL) fun _ => Sm1.mkLst rfl
  | .dct cell es, ρ => by
    unfold evalE
    intro st hb
    have key : Sm1 base (sh base.length) (do
        let vs ← evalL c es ρ
        let kvs ← lift (match pairUp vs with
          | some kvs => if kvs.all (fun q => isKey q.1) then some kvs else none
          | none => none)
        guardM (decide (kvs.length ≤ 15))
        Mn.mkDct cell (mergeKv [] kvs)) (do
        let vs ← evalL c' es (shE base.length ρ)
        let kvs ← lift (match pairUp vs with
          | some kvs => if kvs.all (fun q => isKey q.1) then some kvs else none
          | none => none)
        guardM (decide (kvs.length ≤ 15))
        Mn.mkDct cell (mergeKv [] kvs)) := by
      refine Sm1.bind (evalL_sh es ρ) fun vs => Sm1.bind (f := shD base.length) (Sm1.lift fun a e => ?_) fun kvs => Sm1.bind (f := id) (Sm1.guard fun e => by rw [len_shD]; exact e) fun _ => Sm1.mkDct ?_
      · cases q : pairUp vs with
        | none => rw [q] at e; cases e
        | some kvs =>
          rw [q] at e
          dsimp only at e
          split at e
          · rename_i hk
            cases e
            rw [pairUp_sh vs _ q hk]
            dsimp only
            rw [if_pos]
            rw [shD_map, List.all_map]; exact hk
          · cases e
      · rw [show ([] : List (Val × Val)) = shD base.length [] from rfl, mergeKv_sh]
        rfl
    have same : ∀ (cf : Cf) (r : Env) (s : Store), (do
        let vs ← evalL cf es r
        let kvs ← lift (match pairUp vs with
          | some kvs => if kvs.all (fun q => isKey q.1) then some kvs else none
          | none => none)
        guardM (decide (kvs.length ≤ 15))
        Mn.mkDct cell (mergeKv [] kvs) : M Val) s = (do
        let vs ← evalL cf es r
        let kvs ← lift (pairUp vs)
        guardM (kvs.all (fun q => isKey q.1) && decide (kvs.length ≤ 15))
        Mn.mkDct cell (mergeKv [] kvs) : M Val) s := by
      intro cf r s
      refine congrFun (congrArg (evalL cf es r >>= ·) (funext fun vs => funext fun s1 => ?_)) s
      cases q : pairUp vs with
      | none => rfl
      | some kvs =>
        dsimp only
        cases hk : kvs.all (fun q => isKey q.1) with
        | false =>
          show Res.bad = (do
            guardM (kvs.all (fun q => isKey q.1) && decide (kvs.length ≤ 15))
            Mn.mkDct cell (mergeKv [] kvs) : M Val) s1
          rw [hk]
          rfl
        | true =>
          show (do
            guardM (decide (kvs.length ≤ 15))
            Mn.mkDct cell (mergeKv [] kvs) : M Val) s1 = (do
            guardM (kvs.all (fun q => isKey q.1) && decide (kvs.length ≤ 15))
            Mn.mkDct cell (mergeKv [] kvs) : M Val) s1
          rw [hk, Bool.true_and]
    rw [← same] at hb
    rw [← same, ← same]
    exact key st hb
  | .bin o a b, ρ => by
    unfold evalE
    exact Sm1.bind (evalE_sh a ρ) fun x => Sm1.bind (evalE_sh b ρ) fun y => Sm1.look fun st v e => binop_up v e
  | .neg a, ρ => by
    unfold evalE
    refine Sm1.bind (evalE_sh a ρ) fun x => ?_
    cases x <;> first | exact Sm1.bad | exact Sm1.pure rfl
  | .not a, ρ => by
    unfold evalE
    exact Sm1.bind (evalE_sh a ρ) fun x => Sm1.bind (f := id) (Sm1.look fun st v e => by rw [truthy_up, e]; rfl) fun b => Sm1.pure rfl
  | .cmp o a b, ρ => by
    unfold evalE
    exact Sm1.bind (evalE_sh a ρ) fun x => Sm1.bind (evalE_sh b ρ) fun y => Sm1.bind (f := id) (Sm1.look fun st v e => by rw [cmpVal_up, e]; rfl) fun b => Sm1.pure rfl
  | .chain o p a b d, ρ => by
    unfold evalE
    refine Sm1.bind (evalE_sh a ρ) fun x => Sm1.bind (evalE_sh b ρ) fun y => Sm1.bind (f := id) (Sm1.look fun st v e => by rw [cmpVal_up, e]; rfl) fun r => ?_
    cases r
    · exact Sm1.pure rfl
    · exact Sm1.bind (evalE_sh d ρ) fun z => Sm1.bind (f := id) (Sm1.look fun st v e => by rw [cmpVal_up, e]; rfl) fun b => Sm1.pure rfl
  | .and a b, ρ => by
    unfold evalE
    refine Sm1.bind (evalE_sh a ρ) fun x => Sm1.bind (f := id) (Sm1.look fun st v e => by rw [truthy_up, e]; rfl) fun t => ?_
    cases t
    · exact Sm1.pure rfl
    · exact evalE_sh b ρ
  | .or a b, ρ => by
    unfold evalE
    refine Sm1.bind (evalE_sh a ρ) fun x => Sm1.bind (f := id) (Sm1.look fun st v e => by rw [truthy_up, e]; rfl) fun t => ?_
    cases t
    · exact evalE_sh b ρ
    · exact Sm1.pure rfl
  | .ite d a b, ρ => by
    unfold evalE
    refine Sm1.bind (evalE_sh d ρ) fun x => Sm1.bind (f := id) (Sm1.look fun st v e => by rw [truthy_up, e]; rfl) fun t => ?_
    cases t
    · exact evalE_sh b ρ
    · exact evalE_sh a ρ
  | .idx a i, ρ => by
    unfold evalE
    exact Sm1.bind (evalE_sh a ρ) fun x => Sm1.bind (evalE_sh i ρ) fun y => Sm1.look fun st v e => by rw [idxVal_up, e]; rfl
  | .slc cell a lo hi, ρ => by
    unfold evalE
    refine Sm1.bind (evalE_sh a ρ) fun x => Sm1.bind (evalO_sh lo ρ) fun l => Sm1.bind (evalO_sh hi ρ) fun u => ?_
    exact Sm1.bind (f := id) (Sm1.lift fun a e => by rw [intO_sh, e]; rfl) fun l => Sm1.bind (f := id) (Sm1.lift fun a e => by rw [intO_sh, e]; rfl) fun u => Sm1.bind (f := shC base.length) (Sm1.look fun st v e => by rw [slcVal_up]; simp only [id]; rw [e]; rfl) fun r => Sm1.cutM rfl
  | .rev cell a, ρ => by
    unfold evalE
    exact Sm1.bind (evalE_sh a ρ) fun x => Sm1.bind (f := shL base.length) (Sm1.look fun st v e => by rw [lstOf_up, e]; rfl) fun xs => Sm1.mkLst shL_reverse
  | .fld e f, ρ => by
    unfold evalE
    refine Sm1.bind (evalE_sh e ρ) fun x => Sm1.look fun st v e => ?_
    obtain ⟨r, h1, h2⟩ := Option.bind_eq_some_iff.mp e
    rw [insOf_up, h1, Option.map_some, Option.bind_some]
    simp only [shI, getF_sh, h2, Option.map_some]
  | .call f es, ρ => by
    unfold evalE
    exact Sm1.bind (evalL_sh es ρ) fun vs => h.call f vs
  | .make C es, ρ => by
    unfold evalE
    exact Sm1.bind (evalL_sh es ρ) fun vs => h.make C vs
  | .meth e m es, ρ => by
    unfold evalE
    refine Sm1.bind (evalE_sh e ρ) fun x => Sm1.bind (f := shI base.length) (Sm1.look fun st v e => by rw [insOf_up, e]; rfl) fun r => ?_
    refine Sm1.bind (f := id) (Sm1.guard fun e => ?_) fun _ => Sm1.bind (evalL_sh es ρ) fun vs => h.meth r.2.1 m (x :: vs)
    simp only [shI, getF_sh]
    rw [Option.isNone_map]; exact e
  | .blt cell b es, ρ => by
    unfold evalE
    exact Sm1.bind (evalL_sh es ρ) fun vs => bltVal_sh
  | .lrng cell es, ρ => by
    unfold evalE
    exact Sm1.bind (evalL_sh es ρ) fun vs => Sm1.bind (f := id) (Sm1.lift fun a e => by rw [rngOf_sh, e]; rfl) fun r => Sm1.mkLst rngVals_sh.symm
  | .bm m e es, ρ => by
    unfold evalE
    refine Sm1.bind (evalE_sh e ρ) fun x => Sm1.bind (f := id) (Sm1.look fun st v e => ?_) fun _ => Sm1.bind (evalL_sh es ρ) fun vs => bmVal_sh
    rw [bmKind_up]
    exact e
  | .isi e T, ρ => by
    unfold evalE
    exact Sm1.bind (evalE_sh e ρ) fun x => Sm1.bind (f := id) (Sm1.look fun st v e => by rw [isTy_up, e]; rfl) fun b => Sm1.pure rfl
  | .comp cell elt t it ifs, ρ => by
    unfold evalE
    refine Sm1.bind (evalI_sh it ρ) fun w => Sm1.bind (f := shL base.length) ?_ fun ys => Sm1.bind (f := id) (Sm1.len len_shL) fun _ => Sm1.mkLst rfl
    rw [wipe_sh]
    exact compLoop_sh (fun ρ => evalT_sh ifs ρ) (fun ρ => Sm1.bind (f := sh base.length) (g := shL base.length) (evalE_sh elt ρ) fun y => Sm1.pure (by rw [shL, shL])) w.items
  | .comp2 cell elt t it ifs t1 it1 ifs1, ρ => by
    unfold evalE
    refine Sm1.bind (evalI_sh it ρ) fun w => Sm1.bind (f := shL base.length) ?_ fun ys => Sm1.bind (f := id) (Sm1.len len_shL) fun _ => Sm1.mkLst rfl
    rw [wipe_sh]
    refine compLoop_sh (fun ρ => evalT_sh ifs ρ) (fun ρ => Sm1.bind (evalI_sh it1 ρ) fun w1 => ?_) w.items
    rw [wipe_sh]
    exact compLoop_sh (fun ρ => evalT_sh ifs1 ρ) (fun ρ => Sm1.bind (f := sh base.length) (g := shL base.length) (evalE_sh elt ρ) fun y => Sm1.pure (by rw [shL, shL])) w1.items
theorem evalL_sh : ∀ (es : List Ex) (ρ : Env), Sm1 base (shL base.length) (evalL c es ρ) (evalL c' es (shE base.length ρ))
  | [], ρ => by unfold evalL; exact Sm1.pure rfl
  | e :: es, ρ => by
    unfold evalL
    exact Sm1.bind (evalE_sh e ρ) fun v => Sm1.bind (evalL_sh es ρ) fun vs => Sm1.pure rfl
theorem evalO_sh : ∀ (o : Option Ex) (ρ : Env), Sm1 base (Option.map (sh base.length)) (evalO c o ρ) (evalO c' o (shE base.length ρ))
  | none, ρ => by unfold evalO; exact Sm1.pure rfl
  | some e, ρ => by
    unfold evalO
    exact Sm1.bind (evalE_sh e ρ) fun v => Sm1.pure rfl
theorem evalT_sh : ∀ (es : List Ex) (ρ : Env), Sm1 base id (evalT c es ρ) (evalT c' es (shE base.length ρ))
  | [], ρ => by unfold evalT; exact Sm1.pure rfl
  | e :: es, ρ => by
    unfold evalT
    refine Sm1.bind (evalE_sh e ρ) fun v => Sm1.bind (f := id) (Sm1.look fun st v e => by rw [truthy_up, e]; rfl) fun t => ?_
    cases t
    · exact Sm1.pure rfl
    · exact evalT_sh es ρ
theorem evalI_sh : ∀ (it : It) (ρ : Env), Sm1 base (shW base.length) (evalI c it ρ) (evalI c' it (shE base.length ρ))
  | .of e, ρ => by
    unfold evalI
    exact Sm1.bind (evalE_sh e ρ) fun v => Sm1.look fun st v e => by rw [walkOf_up, e]; rfl
  | .rng es, ρ => by
    unfold evalI
    exact Sm1.bind (evalL_sh es ρ) fun v => Sm1.lift fun v e => by rw [rngWalk_sh, e]; rfl
  | .rev e, ρ => by
    unfold evalI
    exact Sm1.bind (evalE_sh e ρ) fun v => Sm1.look fun st v e => by rw [walkBack_up, e]; rfl
end
end
/-! ### statements -/
def shF (k : Nat) : Flow → Flow
  | .nxt ρ => .nxt (shE k ρ)
  | .ret v => .ret (sh k v)
  | .brk ρ => .brk (shE k ρ)
  | .cnt ρ => .cnt (shE k ρ)
theorem augVal_sh {o : Op} {a b : Val} : Sm1 base (sh base.length) (augVal o a b) (augVal o (sh base.length a) (sh base.length b)) := by
  have gen : ∀ i : Nat, Sm1 base (sh base.length) (match o with
    | .add => (do
      let xs ← look fun st => match st[i]? with
        | some (.lst xs) => some xs
        | _ => none
      let ys ← look fun st => ownLst st b
      lenOk (xs.length + ys.length)
      write i (.lst (xs ++ ys))
      pure (.ref i))
    | _ => Mn.bad : M Val) (match o with
    | .add => (do
      let xs ← look fun st => match st[i + base.length]? with
        | some (.lst xs) => some xs
        | _ => none
      let ys ← look fun st => ownLst st (sh base.length b)
      lenOk (xs.length + ys.length)
      write (i + base.length) (.lst (xs ++ ys))
      pure (.ref (i + base.length)))
    | _ => Mn.bad : M Val) := by
    intro i
    cases o <;> first | exact Sm1.bad | skip
    refine Sm1.bind (f := shL base.length) (Sm1.look fun st a e => cellL_up e) fun xs => Sm1.bind (f := shL base.length) (Sm1.look fun st a e => ?_) fun ys => Sm1.bind (f := id) (Sm1.len ?_) fun _ => Sm1.bind (f := id) (Sm1.write ?_) fun _ => Sm1.pure rfl
    · rw [ownLst_up, e]; rfl
    · rw [len_shL, len_shL]
    · simp only [shO, shL_append]
  cases a
  case int i =>
    cases b <;> first | exact Sm1.bad | skip
    exact Sm1.lift fun v e => by
      obtain ⟨r, h1, rfl⟩ := Option.map_eq_some_iff.mp e
      rw [h1]; rfl
  case str x =>
    cases b <;> first | exact Sm1.bad | skip
    exact Sm1.lift fun v e => by
      split at e
      · rename_i hc
        cases e; rw [if_pos hc]; rfl
      · cases e
  case ref i => cases b <;> exact gen i
  all_goals cases b <;> exact Sm1.bad
theorem setFld_sh {o v : Val} {f : Str} : Sm1 base id (setFld o f v) (setFld (sh base.length o) f (sh base.length v)) := by
  unfold setFld
  refine Sm1.bind (f := shI base.length) (Sm1.look fun st v e => by rw [insOf_up, e]; rfl) fun r => Sm1.bind (f := id) (Sm1.guard fun e => ?_) fun _ => Sm1.write ?_
  · simp only [shI, shK_map, List.length_map]; exact e
  · simp only [shI, shO, putFv_sh]
theorem cellAt_up {o i : Val} {st : Store} : cellAt (sh base.length o) (sh base.length i) (up base st) = (cellAt o i st).map (sh base.length) := by
  cases o <;> try rfl
  rename_i a
  simp only [sh, cellAt, up_get]
  cases st[a]? with
  | none => rfl
  | some ob =>
    cases ob with
    | lst xs =>
      cases i <;> try rfl
      simp only [Option.map_some, shO, sh, atI_sh]
    | dct kvs =>
      simp only [Option.map_some, shO, keyOk_sh]
      split
      · rename_i hk
        rw [sh_key hk, getK_sh]
      · rfl
    | ins C fs => rfl
theorem setIdx_sh {o i v : Val} : Sm1 base id (setIdx o i v) (setIdx (sh base.length o) (sh base.length i) (sh base.length v)) := by
  cases o <;> first | exact Sm1.bad | skip
  rename_i a
  refine Sm1.bind (f := shO base.length) (Sm1.look fun st ob e => by rw [up_get, e]; rfl) fun ob => ?_
  cases ob with
  | lst xs =>
    cases i <;> first | exact Sm1.bad | skip
    refine Sm1.bind (f := id) (Sm1.lift fun j e => ?_) fun j => Sm1.write ?_
    · rw [len_shL]; exact e
    · simp only [shO, shL_map, List.map_set, id]
  | dct kvs =>
    by_cases hk : keyOk i = true
    · refine Sm1.bind (f := id) (Sm1.guard fun e => ?_) fun _ => Sm1.write ?_
      · rw [keyOk_sh, len_shD]; exact e
      · rw [sh_key hk]; simp only [shO, putKv_sh]
    · intro st hb
      refine absurd ?_ hb
      show (do
        guardM (keyOk i && decide (kvs.length < sizeLine))
        Mn.write a (.dct (putKv kvs i v)) : M Unit) st = .bad
      rw [Bool.eq_false_iff.mpr hk, Bool.false_and]
      rfl
  | ins C fs => exact Sm1.bad
section
variable {c c' : Cf} (h : CfS base c c')
include h
mutual
theorem assignT_sh : ∀ (t : Tgt) (v : Val) (ρ : Env), Sm1 base (shE base.length) (assignT c t v ρ) (assignT c' t (sh base.length v) (shE base.length ρ))
  | .nm i, v, ρ => by unfold assignT; exact Sm1.pure set_sh
  | .tup ts, v, ρ => by
    unfold assignT
    exact Sm1.bind (f := shL base.length) (Sm1.look fun st a e => by rw [seqOf_up, e]; rfl) fun xs => assignTs_sh ts xs ρ
  | .idx o i, v, ρ => by
    unfold assignT
    exact Sm1.bind (evalE_sh h o ρ) fun x => Sm1.bind (evalE_sh h i ρ) fun y => Sm1.bind setIdx_sh fun _ => Sm1.pure rfl
  | .fld o f, v, ρ => by
    unfold assignT
    exact Sm1.bind (evalE_sh h o ρ) fun x => Sm1.bind setFld_sh fun _ => Sm1.pure rfl
theorem assignTs_sh : ∀ (ts : List Tgt) (vs : List Val) (ρ : Env), Sm1 base (shE base.length) (assignTs c ts vs ρ) (assignTs c' ts (shL base.length vs) (shE base.length ρ))
  | [], [], ρ => by unfold assignTs; exact Sm1.pure rfl
  | [], _ :: _, ρ => by unfold assignTs; exact Sm1.bad
  | t :: ts, [], ρ => by unfold assignTs; exact Sm1.bad
  | t :: ts, v :: vs, ρ => by
    unfold assignTs
    exact Sm1.bind (assignT_sh t v ρ) fun ρ' => assignTs_sh ts vs ρ'
end
theorem augT_sh (t : Tgt) (o : Op) (e : Ex) (ρ : Env) : Sm1 base (shE base.length) (augT c t o e ρ) (augT c' t o e (shE base.length ρ)) := by
  cases t with
  | nm i =>
    exact Sm1.bind (f := sh base.length) (Sm1.lift fun a e => by rw [getVar_sh, e]; rfl) fun x => Sm1.bind (evalE_sh h e ρ) fun y => Sm1.bind augVal_sh fun z => Sm1.pure set_sh
  | idx a i =>
    exact Sm1.bind (evalE_sh h a ρ) fun p => Sm1.bind (evalE_sh h i ρ) fun k => Sm1.bind (f := sh base.length) (Sm1.look fun st a e => by rw [cellAt_up, e]; rfl) fun x => Sm1.bind (evalE_sh h e ρ) fun y => Sm1.bind augVal_sh fun z => Sm1.bind setIdx_sh fun _ => Sm1.pure rfl
  | fld a f =>
    refine Sm1.bind (evalE_sh h a ρ) fun p => Sm1.bind (f := shI base.length) (Sm1.look fun st a e => by rw [insOf_up, e]; rfl) fun r => Sm1.bind (f := sh base.length) (Sm1.lift fun a e => ?_) fun x => Sm1.bind (evalE_sh h e ρ) fun y => Sm1.bind augVal_sh fun z => ?_
    · simp only [shI, getF_sh, e, Option.map_some]
    · exact Sm1.bind (f := shI base.length) (Sm1.look fun st a e => by rw [insOf_up, e]; rfl) fun r2 => Sm1.bind (f := id) (Sm1.guard fun e => e) fun _ => Sm1.bind setFld_sh fun _ => Sm1.pure rfl
  | tup ts => exact Sm1.bad
theorem testE_sh (e : Ex) (ρ : Env) : Sm1 base id (testE c e ρ) (testE c' e (shE base.length ρ)) :=
  Sm1.bind (evalE_sh h e ρ) fun v => Sm1.look fun st b e => by rw [truthy_up, e]; rfl
omit h in
theorem forLoop_sh {w : Walked} {t : Tg} {b b' : Env → M Flow} (hb : ∀ ρ, Sm1 base (shF base.length) (b ρ) (b' (shE base.length ρ))) : ∀ (xs : List Val) (ρ : Env), Sm1 base (shF base.length) (forLoop w t b xs ρ) (forLoop (shW base.length w) t b' (shL base.length xs) (shE base.length ρ))
  | [], ρ => Sm1.bind (f := id) Sm1.still fun _ => Sm1.pure rfl
  | x :: xs, ρ => by
    refine Sm1.bind (f := id) Sm1.still fun _ => Sm1.bind (f := shE base.length) (Sm1.lift fun a h => by rw [bindTg_sh, h]; rfl) fun ρ' => Sm1.bind (hb ρ') fun f => ?_
    cases f
    · exact forLoop_sh hb xs _
    · exact Sm1.pure rfl
    · exact Sm1.pure rfl
    · exact forLoop_sh hb xs _
omit h in
theorem whileLoop_sh {t t' : Env → M Bool} {b b' : Env → M Flow} (ht : ∀ ρ, Sm1 base id (t ρ) (t' (shE base.length ρ))) (hb : ∀ ρ, Sm1 base (shF base.length) (b ρ) (b' (shE base.length ρ))) : ∀ (n : Nat) (ρ : Env), Sm1 base (shF base.length) (whileLoop t b n ρ) (whileLoop t' b' n (shE base.length ρ))
  | 0, ρ => Sm1.bad
  | n + 1, ρ => by
    refine Sm1.bind (f := id) (ht ρ) fun q => ?_
    cases q
    · exact Sm1.pure rfl
    · refine Sm1.bind (hb ρ) fun f => ?_
      cases f
      · exact whileLoop_sh ht hb n _
      · exact Sm1.pure rfl
      · exact Sm1.pure rfl
      · exact whileLoop_sh ht hb n _
mutual
theorem execS_sh : ∀ (s : Sm) (ρ : Env), Sm1 base (shF base.length) (execS c s ρ) (execS c' s (shE base.length ρ))
  | .asg t e, ρ => by
    unfold execS
    exact Sm1.bind (evalE_sh h e ρ) fun v => Sm1.bind (assignT_sh h t v ρ) fun ρ' => Sm1.pure rfl
  | .aug t o e, ρ => by
    unfold execS
    exact Sm1.bind (augT_sh h t o e ρ) fun ρ' => Sm1.pure rfl
  | .expr e, ρ => by
    unfold execS
    exact Sm1.bind (evalE_sh h e ρ) fun v => Sm1.pure rfl
  | .ret e, ρ => by
    unfold execS
    exact Sm1.bind (evalE_sh h e ρ) fun v => Sm1.pure rfl
  | .retN, ρ => by
    unfold execS
    exact Sm1.pure rfl
  | .ite t a b, ρ => by
    unfold execS
    refine Sm1.bind (f := id) (testE_sh h t ρ) fun q => ?_
    cases q
    · exact execB_sh b ρ
    · exact execB_sh a ρ
  | .for_ t it b, ρ => by
    unfold execS
    exact Sm1.bind (evalI_sh h it ρ) fun w => forLoop_sh (fun ρ => execB_sh b ρ) w.items ρ
  | .while_ t b, ρ => by
    unfold execS
    exact whileLoop_sh (fun ρ => testE_sh h t ρ) (fun ρ => execB_sh b ρ) manyTurns ρ
  | .brk, ρ => by
    unfold execS
    exact Sm1.pure rfl
  | .cnt, ρ => by
    unfold execS
    exact Sm1.pure rfl
  | .pass, ρ => by
    unfold execS
    exact Sm1.pure rfl
  | .bad, ρ => by
    unfold execS
    exact Sm1.bad
theorem execB_sh : ∀ (b : List Sm) (ρ : Env), Sm1 base (shF base.length) (execB c b ρ) (execB c' b (shE base.length ρ))
  | [], ρ => by
    unfold execB
    exact Sm1.pure rfl
  | s :: r, ρ => by
    unfold execB
    refine Sm1.bind (execS_sh s ρ) fun f => ?_
    cases f
    · exact execB_sh r _
    · exact Sm1.pure rfl
    · exact Sm1.pure rfl
    · exact Sm1.pure rfl
end
end
/-! ### calls -/
theorem mapO_sh {α β α' β' : Type} {f : α → Option β} {f' : α' → Option β'} {g : α → α'} {p : β → β'} (hf : ∀ x y, f x = some y → f' (g x) = some (p y)) : ∀ {xs : List α} {ys : List β}, mapO f xs = some ys → mapO f' (xs.map g) = some (ys.map p)
  | [], ys, e => by cases e; rfl
  | x :: xs, ys, e => by
    unfold mapO at e
    cases q : f x with
    | none => rw [q] at e; cases e
    | some y =>
      rw [q] at e
      obtain ⟨zs, h1, rfl⟩ := Option.map_eq_some_iff.mp e
      rw [List.map_cons, mapO, hf x y q]
      dsimp only
      rw [mapO_sh hf h1]; rfl
theorem frz_sh {n : Nat} {st : Store} : ∀ (d : Nat) (v u : Val), frz n st d v = some u → frz (n + base.length) (up base st) d (sh base.length v) = some (sh base.length u)
  | 0, v, u, e => by
    unfold frz at e ⊢
    rw [old_sh]
    split at e
    · rename_i hc; cases e; rw [if_pos hc]
    · cases e
  | d + 1, v, u, e => by
    unfold frz at e ⊢
    rw [old_sh]
    split at e
    · rename_i hc; cases e; rw [if_pos hc]
    · rename_i hc
      rw [if_neg hc]
      have ih := fun x y => frz_sh (n := n) (st := st) d x y
      have ihD : ∀ (q r : Val × Val), ((frz n st d q.2).map fun y => (q.1, y)) = some r → ((frz (n + base.length) (up base st) d (sh base.length q.2)).map fun y => (q.1, y)) = some (r.1, sh base.length r.2) := by
        rintro ⟨a, b⟩ r e
        obtain ⟨y, h1, rfl⟩ := Option.map_eq_some_iff.mp e
        rw [ih _ _ h1]; rfl
      cases v <;> first | (cases e; done) | skip
      case tup xs =>
        obtain ⟨ys, h1, rfl⟩ := Option.map_eq_some_iff.mp e
        simp only [sh, shL_map]
        rw [mapO_sh ih h1]; rfl
      case lst xs =>
        obtain ⟨ys, h1, rfl⟩ := Option.map_eq_some_iff.mp e
        simp only [sh, shL_map]
        rw [mapO_sh ih h1]; rfl
      case dct xs =>
        obtain ⟨ys, h1, rfl⟩ := Option.map_eq_some_iff.mp e
        simp only [sh, shD_map]
        rw [mapO_sh (f' := fun q => (frz (n + base.length) (up base st) d q.2).map fun y => (q.1, y)) (g := fun q => (q.1, sh base.length q.2)) (p := fun q => (q.1, sh base.length q.2)) ihD h1]; rfl
      case ref i =>
        simp only [sh, up_get]
        dsimp only at e
        cases q : st[i]? with
        | none => rw [q] at e; cases e
        | some ob =>
          rw [q] at e
          cases ob <;> first | (cases e; done) | skip
          case lst xs =>
            obtain ⟨ys, h1, rfl⟩ := Option.map_eq_some_iff.mp e
            simp only [Option.map_some, shO, shL_map]
            rw [mapO_sh ih h1, Option.map_some, sh, shL_map]
          case dct xs =>
            obtain ⟨ys, h1, rfl⟩ := Option.map_eq_some_iff.mp e
            simp only [Option.map_some, shO, shD_map]
            rw [mapO_sh (f' := fun q => (frz (n + base.length) (up base st) d q.2).map fun y => (q.1, y)) (g := fun q => (q.1, sh base.length q.2)) (p := fun q => (q.1, sh base.length q.2)) ihD h1, Option.map_some, sh, shD_map]
/-- no cell points above -/
def Wf (st : Store) : Prop := st.all (oldO st.length) = true
theorem leave_sh (hw : Wf base) {n : Nat} {v : Val} : Sm1 base (sh base.length) (leave n v) (leave (n + base.length) (sh base.length v)) := by
  intro st hb
  unfold leave at hb ⊢
  cases q : frz n st 20 v with
  | none => rw [q] at hb; exact absurd rfl hb
  | some u =>
    rw [q] at hb
    cases q2 : (st.take n).all (oldO n) with
    | false => rw [q2] at hb; exact absurd rfl hb
    | true =>
      rw [frz_sh 20 v u q, up_take]
      have : (up base (st.take n)).all (oldO (n + base.length)) = true := by
        unfold up
        rw [List.all_append, Bool.and_eq_true]
        refine ⟨?_, ?_⟩
        · rw [List.all_eq_true]
          intro o ho
          exact oldO_mono (by omega) (List.all_eq_true.mp hw o ho)
        · rw [List.all_map, List.all_eq_true]
          intro o ho
          show oldO (n + base.length) (shO base.length o) = true
          rw [oldO_sh]
          exact List.all_eq_true.mp q2 o ho
      rw [this]; rfl
theorem fullArgs_sh {F : Fn} (hd : oldL 0 F.dfl = true) {vs ws : List Val} (e : fullArgs F vs = some ws) : fullArgs F (shL base.length vs) = some (shL base.length ws) := by
  unfold fullArgs at e ⊢
  rw [len_shL]
  split at e
  · rename_i hc; cases e; rw [if_pos hc]
  · rename_i hc
    rw [if_neg hc]
    split at e
    · rename_i hc2
      cases e; rw [if_pos hc2, shL_append, shL_old0 F.dfl hd]
    · cases e
theorem startEnv_sh {k n : Nat} {vs : List Val} : startEnv n (shL k vs) = shE k (startEnv n vs) := by
  unfold startEnv shE
  rw [len_shL, shL_map, List.map_append, List.map_map, List.map_map, List.map_replicate]; rfl
theorem runBody_sh (hw : Wf base) {c c' : Cf} (h : CfS base c c') {F : Fn} (hd : oldL 0 F.dfl = true) {vs : List Val} : Sm1 base (sh base.length) (runBody c F vs) (runBody c' F (shL base.length vs)) := by
  intro st hb
  unfold runBody at hb ⊢
  cases q : fullArgs F vs with
  | none => rw [q] at hb; exact absurd rfl hb
  | some ws =>
    rw [q] at hb
    rw [fullArgs_sh hd q]
    dsimp only at hb ⊢
    have ex := execB_sh h F.body (startEnv F.n ws) st
    rw [← startEnv_sh] at ex
    rw [up_len]
    cases q2 : execB c F.body (startEnv F.n ws) st with
    | bad => rw [q2] at hb; exact absurd rfl hb
    | exc C v s1 =>
      rw [ex (by rw [q2]; intro z; cases z), q2]
      rfl
    | ok f s1 =>
      rw [ex (by rw [q2]; intro z; cases z), q2]
      rw [q2] at hb
      cases f with
      | nxt ρ =>
        show (if F.drop = true then leave (st.length + base.length) Val.non else pure Val.non) (up base s1) = shR base (sh base.length) ((if F.drop = true then leave st.length Val.non else pure Val.non) s1)
        have hb : (if F.drop = true then leave st.length Val.non else pure Val.non) s1 ≠ .bad := hb
        split at hb
        · rename_i hc
          rw [if_pos hc, if_pos hc]
          exact leave_sh hw (v := .non) s1 hb
        · rename_i hc
          rw [if_neg hc, if_neg hc]; rfl
      | ret v =>
        show (if F.drop = true then leave (st.length + base.length) (sh base.length v) else pure (sh base.length v)) (up base s1) = shR base (sh base.length) ((if F.drop = true then leave st.length v else pure v) s1)
        have hb : (if F.drop = true then leave st.length v else pure v) s1 ≠ .bad := hb
        split at hb
        · rename_i hc
          rw [if_pos hc, if_pos hc]
          exact leave_sh hw s1 hb
        · rename_i hc
          rw [if_neg hc, if_neg hc]; rfl
      | brk ρ => exact absurd rfl hb
      | cnt ρ => exact absurd rfl hb
/-- what is asked of a law's text: no default, no constant that is a cell -/
structure Clo (D : Defs) (G : Str → Option Val) : Prop where
  dfl : ∀ C f F, findFn D C f = some F → oldL 0 F.dfl = true
  glo : ∀ x v, G x = some v → old 0 v = true
theorem callFn_sh {D : Defs} {G : Str → Option Val} (cl : Clo D G) (hw : Wf base) : ∀ (n n' : Nat), n ≤ n' → ∀ (C f : Str) (vs : List Val), Sm1 base (sh base.length) (callFn D G n C f vs) (callFn D G n' C f (shL base.length vs))
  | 0, n', _, C, f, vs => by unfold callFn; exact Sm1.bad
  | n + 1, 0, hn, C, f, vs => absurd hn (by omega)
  | n + 1, n' + 1, hn, C, f, vs => by
    unfold callFn
    cases q : findFn D C f with
    | none => exact Sm1.bad
    | some F =>
      refine runBody_sh hw ⟨fun f vs => callFn_sh cl hw n n' (by omega) _ f vs, fun C m vs => ?_, fun C vs => ?_, fun x v e => ?_⟩ (cl.dfl _ _ _ q)
      · dsimp only
        split
        · exact Sm1.bad
        · exact callFn_sh cl hw n n' (by omega) C m vs
      · dsimp only
        split
        · exact Sm1.bad
        · refine Sm1.bind (f := sh base.length) (Sm1.alloc rfl) fun o => Sm1.bind (f := sh base.length) ?_ fun r => Sm1.bind (f := id) (Sm1.guard fun e => ?_) fun _ => Sm1.pure rfl
          · cases n with
            | zero => exact Sm1.bad
            | succ m =>
              cases n' with
              | zero => omega
              | succ m' => exact callFn_sh cl hw m m' (by omega) C "__init__" (o :: vs)
          · rw [decide_eq_true_eq] at e ⊢
            rw [e, sh]
            all_goals intros; contradiction
      · dsimp only at e ⊢
        rw [e, sh_old0 v (cl.glo x v e)]
/-- more room does not matter -/
theorem callFn_more {D : Defs} {G : Str → Option Val} (cl : Clo D G) {n n' : Nat} (hn : n ≤ n') {C f : Str} {vs : List Val} (hv : oldL 0 vs = true) {v : Val} (h0 : old 0 v = true) (e : callFn D G n C f vs [] = .ok v []) (hw : Wf base) :
    callFn D G n' C f vs base = .ok v base := by
  have := callFn_sh (base := base) cl hw n n' hn C f vs [] (by rw [e]; intro z; cases z)
  rw [shL_old0 vs hv, e] at this
  have e2 : up base [] = base := by simp [up]
  rw [e2] at this
  rw [this]
  show Res.ok (sh base.length v) (up base []) = _
  rw [e2, sh_old0 v h0]
end
end Mn

end

section
set_option maxHeartbeats 4000000
/-! Mn: what a mini text does, by rewriting. -/
namespace Mn
open PySem
/-! ### texts -/
theorem str_inj {a b : String} : Str.ofString a = Str.ofString b ↔ a = b := by
  constructor
  · intro h
    rw [Str.ofString_eq_toList, Str.ofString_eq_toList] at h
    injection h with h
    have h : (a.toList.map Char.toNat) = b.toList.map Char.toNat := by
      have := congrArg Array.toList h
      simpa using this
    have inj : ∀ l m : List Char, l.map Char.toNat = m.map Char.toNat → l = m := by
      intro l
      induction l with
      | nil => intro m e; cases m with
        | nil => rfl
        | cons c m => cases e
      | cons c l ih => intro m e; cases m with
        | nil => cases e
        | cons d m =>
          rw [List.map_cons, List.map_cons] at e
          injection e with e1 e2
          rw [ih m e2]
          congr 1
          exact Char.ext (UInt32.toNat_inj.mp e1)
    have := inj _ _ h
    exact String.toList_inj.mp this
  · intro h; rw [h]
theorem str_append {a b : String} : Str.ofString a ++ Str.ofString b = Str.ofString (a ++ b) := by
  rw [Str.ofString_eq_toList, Str.ofString_eq_toList, Str.ofString_eq_toList]
  show Str.mk _ = Str.mk _
  simp
theorem str_inj' {a b : String} : (Str.ofString a = Str.ofString b) = (a = b) := propext str_inj
theorem str_beq {a b : String} : (Str.ofString a == Str.ofString b) = decide (a = b) := by
  by_cases h : a = b
  · subst h; simp
  · have : ¬ Str.ofString a = Str.ofString b := fun e => h (str_inj.mp e)
    simp [h, this]
theorem str_append' {a b : String} : Str.ofString a ++ Str.ofString b = Str.ofString (a ++ b) := str_append
theorem str_length {a : String} : (Str.ofString a).length = a.length := by
  rw [Str.ofString_eq_toList]
  show Array.size _ = _
  simp [String.length_toList]
theorem strOk_of {a : String} : PyData.strOk (Str.ofString a) = true := by
  rw [Str.ofString_eq_toList]
  unfold PyData.strOk
  simp only [List.all_toArray, List.all_map, List.all_eq_true]
  intro c _
  have h := c.valid
  have : c.toNat = c.val.toNat := rfl
  simp only [UInt32.isValidChar, Nat.isValidChar] at h
  simp only [Function.comp_apply, decide_eq_true_eq]
  omega
section
variable {c : Cf} {ρ : Mn.Env} {st : Store} {k : Nat}
theorem dec_false {p : Prop} [Decidable p] : (decide p = false) = ¬ p := propext decide_eq_false_iff_not
theorem dec_true {p : Prop} [Decidable p] : (decide p = true) = p := propext decide_eq_true_iff
theorem ndec_true {p : Prop} [Decidable p] : ((!decide p) = true) = ¬ p := by simp
theorem ndec_false {p : Prop} [Decidable p] : ((!decide p) = false) = p := by simp
theorem x_some {α : Type} {a : α} {P : α → Prop} : (∃ v, some a = some v ∧ P v) ↔ P a := ex_some
theorem x_none {α : Type} {P : α → Prop} : (∃ v, (none : Option α) = some v ∧ P v) ↔ False := by simp
theorem x_eq {α : Type} {a : α} {P : α → Prop} : (∃ v, a = v ∧ P v) ↔ P a := by simp
theorem x_int {i : Int} {P : Int → Prop} : (∃ v, Val.int i = .int v ∧ P v) ↔ P i := by simp
theorem lg1 {P : Prop} : (True → P) = P := by simp
theorem lg2 {P : Prop} : (False → P) = True := by simp
theorem lg3 {P : Prop} : (P → True) = True := by simp
theorem lg4 {P : Prop} : (P ∧ True) = P := by simp
theorem lg5 {P : Prop} : (True ∧ P) = P := by simp
theorem lg6 {P : Prop} : (P ∧ False) = False := by simp
theorem lg7 {P : Prop} : (False ∧ P) = False := by simp
theorem lg8 : (¬ True) = False := by simp
theorem lg9 : (¬ False) = True := by simp
theorem lg10 : (!true) = false := (rfl)
theorem lg11 : (!false) = true := (rfl)
theorem lg12 {α : Type} {a b : α} : (if True then a else b) = a := by simp
theorem lg13 {α : Type} {a b : α} : (if False then a else b) = b := by simp
theorem lg14 {P : Prop} : (¬ ¬ P) = P := by simp
theorem lg15 {α : Type} {a b : α} : (if true = true then a else b) = a := by simp
theorem lg16 {α : Type} {a b : α} : (if false = true then a else b) = b := by simp
theorem lg17 : (true = false) = False := by simp
theorem lg18 : (false = true) = False := by simp
theorem lg19 {p : Prop} [Decidable p] : (if p then (1 : Int) else 0) = 0 ↔ ¬ p := by split <;> simp_all
theorem lg20 {p : Prop} [Decidable p] : (if p then (1 : Int) else 0) = 1 ↔ p := by split <;> simp_all
theorem lg21 : decide True = true := (rfl)
theorem lg22 : decide False = false := (rfl)
theorem im_true {P : Prop} : (true = true → P) = P := by simp
theorem im_true' {P : Prop} : (true = false → P) = True := by simp
theorem im_false {P : Prop} : (false = true → P) = True := by simp
theorem im_false' {P : Prop} : (false = false → P) = P := by simp
theorem nb_true {b : Bool} : ((!b) = true) = (b = false) := by simp
theorem nb_false {b : Bool} : ((!b) = false) = (b = true) := by simp
/-- what stands here is left alone by rewriting: a later argument depends on it -/
class Wrap {β : Type} (Q : β) : Type where
class WrapP (Q : Prop) : Type where
instance {β : Type} {Q : β} : Wrap Q := ⟨⟩
instance {Q : Prop} : WrapP Q := ⟨⟩
def wq {α : Type} (m : M α) (st : Store) (Q : α → Store → Prop) [Wrap Q] : Prop := wp m st Q
/-- there is a value, and it has P -/
def optB {α : Type} (o : Option α) (P : α → Prop) [Wrap P] : Prop := ∃ v, o = some v ∧ P v
def cond2 (t : Bool) (A B : Prop) [WrapP A] [WrapP B] : Prop := (t = true → A) ∧ (t = false → B)
def nq (c : Cf) (r : List Sm) (Q : Flow → Store → Prop) [Wrap Q] (f : Flow) (s : Store) : Prop := nextQ c r Q f s
theorem cond2_i {t : Bool} {A B : Prop} (h1 : t = true → A) (h2 : t = false → B) : cond2 t A B := ⟨h1, h2⟩
theorem ob_some {α : Type} {a : α} {P : α → Prop} : optB (some a) P ↔ P a := ex_some
theorem ob_none {α : Type} {P : α → Prop} : optB (none : Option α) P ↔ False := by simp [optB]
theorem c2_t {A B : Prop} : cond2 true A B ↔ A := by simp [cond2]
theorem c2_f {A B : Prop} : cond2 false A B ↔ B := by simp [cond2]
theorem c2_d {p : Prop} [Decidable p] {A B : Prop} : cond2 (decide p) A B ↔ (p → A) ∧ (¬ p → B) := by simp [cond2]
theorem c2_n {p : Bool} {A B : Prop} : cond2 (!p) A B ↔ cond2 p B A := by simp [cond2, and_comm]
theorem c2_and {p q : Bool} {A B : Prop} : cond2 (p && q) A B ↔ cond2 p (cond2 q A B) B := by cases p <;> cases q <;> simp [cond2]
theorem c2_or {p q : Bool} {A B : Prop} : cond2 (p || q) A B ↔ cond2 p A (cond2 q A B) := by cases p <;> cases q <;> simp [cond2]
theorem if_some {α : Type} {p : Prop} [Decidable p] {a : α} {P : α → Prop} : optB (if p then some a else none) P ↔ p ∧ P a := by
  by_cases h : p <;> simp [h, optB]
/-! ### comparing -/
theorem q_eq_int {a b : Int} : cmpVal .eq (.int a) (.int b) st = some (decide (a = b)) := cmp_eq_int
theorem q_ne_int {a b : Int} : cmpVal .ne (.int a) (.int b) st = some (!decide (a = b)) := cmp_ne_int
theorem q_eq_bl {a b : Bool} : cmpVal .eq (.bl a) (.bl b) st = some (decide (a = b)) := cmp_eq_bl
theorem q_ne_bl {a b : Bool} : cmpVal .ne (.bl a) (.bl b) st = some (!decide (a = b)) := cmp_ne_bl
theorem q_lt {a b : Int} : cmpVal .lt (.int a) (.int b) st = some (decide (a < b)) := (rfl)
theorem q_gt {a b : Int} : cmpVal .gt (.int a) (.int b) st = some (decide (b < a)) := (rfl)
theorem q_le {a b : Int} : cmpVal .le (.int a) (.int b) st = some (decide (a ≤ b)) := (rfl)
theorem q_ge {a b : Int} : cmpVal .ge (.int a) (.int b) st = some (decide (b ≤ a)) := (rfl)
theorem eq_str {a b : Str} (ha : PyData.strOk a = true) (hb : PyData.strOk b = true) : eqVal (.str a) (.str b) st = some (decide (a = b)) := by
  have h1 : SeqAt.shaped (.str a) = true := by unfold SeqAt.shaped PyData.canLay0; rw [ha]; rfl
  have h2 : SeqAt.shaped (.str b) = true := by unfold SeqAt.shaped PyData.canLay0; rw [hb]; rfl
  show (if SeqAt.shaped (.str a) && SeqAt.shaped (.str b) then some (PyData.eqv (.str a) (.str b)) else none) = _
  rw [h1, h2, if_pos (show (true && true) = true from rfl)]
  show some (a == b) = _
  by_cases h : a = b
  · subst h; simp
  · simp [h]
theorem q_eq_str {a b : String} : cmpVal .eq (.str (Str.ofString a)) (.str (Str.ofString b)) st = some (decide (a = b)) := by
  show eqVal (.str (Str.ofString a)) (.str (Str.ofString b)) st = _
  rw [eq_str strOk_of strOk_of, decide_eq_decide.mpr str_inj]
theorem q_ne_str {a b : String} : cmpVal .ne (.str (Str.ofString a)) (.str (Str.ofString b)) st = some (!decide (a = b)) := by
  show (eqVal (.str (Str.ofString a)) (.str (Str.ofString b)) st).map (!·) = _
  rw [eq_str strOk_of strOk_of, decide_eq_decide.mpr str_inj]; rfl
/-- data of unlike kinds -/
theorem eq_kind {a b : Val} {d e : PyData} (ha : toPy (deref st a) = some d) (hb : toPy (deref st b) = some e) (h1 : SeqAt.shaped d = true) (h2 : SeqAt.shaped e = true) : eqVal a b st = some (PyData.eqv d e) := by
  unfold eqVal
  rw [ha, hb]
  dsimp only
  rw [h1, h2]; rfl
theorem q_is_non {a : Val} : cmpVal .is_ a .non st = some (decide (a = .non)) := by cases a <;> exact (rfl)
theorem q_isnot_non {a : Val} : cmpVal .isnot a .non st = some (!decide (a = .non)) := by cases a <;> rfl
theorem q_is_bl {a b : Bool} : cmpVal .is_ (.bl a) (.bl b) st = some (decide (a = b)) := (rfl)
theorem q_isnot_bl {a b : Bool} : cmpVal .isnot (.bl a) (.bl b) st = some (!decide (a = b)) := (rfl)
theorem n_int {i : Int} : (Val.int i = .non) = False := by simp
theorem n_bl {i : Bool} : (Val.bl i = .non) = False := by simp
theorem n_str {i : Str} : (Val.str i = .non) = False := by simp
theorem n_tup {i : List Val} : (Val.tup i = .non) = False := by simp
theorem n_lst {i : List Val} : (Val.lst i = .non) = False := by simp
theorem n_ref {i : Nat} : (Val.ref i = .non) = False := by simp
theorem n_non : (Val.non = .non) = True := by simp
theorem q_in_tup {s : String} {ys : List Val} (h : ys.all flat = true) : cmpVal .in_ (.str (Str.ofString s)) (.tup ys) st = some (ys.any fun z => eqFlat z (.str (Str.ofString s))) := by
  show inVal (.str (Str.ofString s)) (.tup ys) st = _
  unfold inVal dctOf tupOf
  dsimp only
  rw [h, show flat (Val.str (Str.ofString s)) = true from rfl, if_pos (show (true && true) = true from rfl)]
theorem q_notin_tup {s : String} {ys : List Val} (h : ys.all flat = true) : cmpVal .notin (.str (Str.ofString s)) (.tup ys) st = some (!(ys.any fun z => eqFlat z (.str (Str.ofString s)))) := by
  show (inVal (.str (Str.ofString s)) (.tup ys) st).map (!·) = _
  rw [show inVal (.str (Str.ofString s)) (.tup ys) st = cmpVal .in_ (.str (Str.ofString s)) (.tup ys) st from rfl, q_in_tup h]; rfl
theorem q_in_ktup {s : String} {ys : List Val} (h : ys.all flat = true) : cmpVal .in_ (.str (Str.ofString s)) (.ktup ys) st = some (ys.any fun z => eqFlat z (.str (Str.ofString s))) := by
  show inVal (.str (Str.ofString s)) (.ktup ys) st = _
  unfold inVal dctOf tupOf
  dsimp only
  rw [h, show flat (Val.str (Str.ofString s)) = true from rfl, if_pos (show (true && true) = true from rfl)]
theorem q_notin_ktup {s : String} {ys : List Val} (h : ys.all flat = true) : cmpVal .notin (.str (Str.ofString s)) (.ktup ys) st = some (!(ys.any fun z => eqFlat z (.str (Str.ofString s)))) := by
  show (inVal (.str (Str.ofString s)) (.ktup ys) st).map (!·) = _
  rw [show inVal (.str (Str.ofString s)) (.ktup ys) st = cmpVal .in_ (.str (Str.ofString s)) (.ktup ys) st from rfl, q_in_ktup h]; rfl
theorem q_in_lst {s : String} {ys : List Val} (h : ys.all flat = true) : cmpVal .in_ (.str (Str.ofString s)) (.lst ys) st = some (ys.any fun z => eqFlat z (.str (Str.ofString s))) := by
  show inVal (.str (Str.ofString s)) (.lst ys) st = _
  unfold inVal dctOf tupOf lstOf
  dsimp only
  rw [h, show flat (Val.str (Str.ofString s)) = true from rfl, if_pos (show (true && true) = true from rfl)]
theorem q_notin_lst {s : String} {ys : List Val} (h : ys.all flat = true) : cmpVal .notin (.str (Str.ofString s)) (.lst ys) st = some (!(ys.any fun z => eqFlat z (.str (Str.ofString s)))) := by
  show (inVal (.str (Str.ofString s)) (.lst ys) st).map (!·) = _
  rw [show inVal (.str (Str.ofString s)) (.lst ys) st = cmpVal .in_ (.str (Str.ofString s)) (.lst ys) st from rfl, q_in_lst h]; rfl
theorem q_in_kdct {s : Str} {kvs : List (Str × Val)} : cmpVal .in_ (.str s) (.kdct kvs) st = some (getF kvs s).isSome := (rfl)
theorem q_notin_kdct {s : Str} {kvs : List (Str × Val)} : cmpVal .notin (.str s) (.kdct kvs) st = some (!(getF kvs s).isSome) := (rfl)
theorem ef_str {a b : String} : eqFlat (.str (Str.ofString a)) (.str (Str.ofString b)) = decide (a = b) := by
  show (Str.ofString a == Str.ofString b) = _
  exact str_beq
theorem ef_int {a b : Int} : eqFlat (.int a) (.int b) = decide (a = b) := by
  show (a == b) = _
  by_cases h : a = b
  · subst h; simp
  · simp [h]
theorem fl_str {x : Str} : flat (.str x) = true := (rfl)
theorem fl_int {x : Int} : flat (.int x) = true := (rfl)
theorem fl_bl {x : Bool} : flat (.bl x) = true := (rfl)
theorem fl_non : flat .non = true := (rfl)
theorem all_nil' {p : Val → Bool} : ([] : List Val).all p = true := (rfl)
theorem all_cons' {p : Val → Bool} {x : Val} {xs : List Val} : (x :: xs).all p = (p x && xs.all p) := (rfl)
theorem any_nil' {p : Val → Bool} : ([] : List Val).any p = false := (rfl)
theorem any_cons' {p : Val → Bool} {x : Val} {xs : List Val} : (x :: xs).any p = (p x || xs.any p) := (rfl)
/-! ### truth -/
theorem t_bl {b : Bool} : truthy (.bl b) st = some b := (rfl)
theorem t_int {i : Int} : truthy (.int i) st = some (!decide (i = 0)) := by
  show some (i != 0) = _
  simp [bne, BEq.beq]
theorem t_non : truthy .non st = some false := (rfl)
theorem t_tup {xs : List Val} : truthy (.tup xs) st = some !xs.isEmpty := (rfl)
theorem t_lst {xs : List Val} : truthy (.lst xs) st = some !xs.isEmpty := (rfl)
/-! ### operators -/
theorem o_add {a b : Int} : binop .add (.int a) (.int b) st = some (.int (a + b)) := (rfl)
theorem o_sub {a b : Int} : binop .sub (.int a) (.int b) st = some (.int (a - b)) := (rfl)
theorem o_band {a b : Int} : binop .band (.int a) (.int b) st = some (.int (Builtin.bitAnd a b)) := (rfl)
theorem o_bor {a b : Int} : binop .bor (.int a) (.int b) st = some (.int (Builtin.bitOr a b)) := (rfl)
theorem o_mul {a b : Int} {P : Val → Prop} : optB (binop .mul (.int a) (.int b) st) P ↔ (small64 a || small64 b) = true ∧ P (.int (a * b)) := by
  by_cases h : (small64 a || small64 b) = true <;> simp [binop, binInt, h, optB]
theorem o_fdiv {a b : Int} {P : Val → Prop} : optB (binop .fdiv (.int a) (.int b) st) P ↔ (0 < b ∧ b < 1073741824) ∧ P (.int (a / b)) := by
  by_cases h : (0 < b ∧ b < 1073741824)
  · simp [binop, binInt, h, optB]
  · have : (decide (0 < b) && decide (b < 1073741824)) = false := by
      rw [Bool.eq_false_iff]; simpa using h
    simp only [binop, binInt, this, h, optB]
    simp
theorem o_mod {a b : Int} {P : Val → Prop} : optB (binop .mod (.int a) (.int b) st) P ↔ 0 < b ∧ P (.int (a % b)) := by
  by_cases h : 0 < b <;> simp [binop, binInt, h, optB]
theorem o_addT {xs ys : List Val} {P : Val → Prop} : optB (binop .add (.tup xs) (.tup ys) st) P ↔ xs.length + ys.length ≤ sizeLine ∧ P (.tup (xs ++ ys)) := by
  exact if_some
theorem o_addL {xs ys : List Val} {P : Val → Prop} : optB (binop .add (.lst xs) (.lst ys) st) P ↔ xs.length + ys.length ≤ sizeLine ∧ P (.lst (xs ++ ys)) := by
  exact if_some
theorem o_addS {x y : Str} {P : Val → Prop} : optB (binop .add (.str x) (.str y) st) P ↔ x.length + y.length ≤ sizeLine ∧ P (.str (x ++ y)) := by
  refine (if_some (p := Op.add = .add ∧ x.length + y.length ≤ sizeLine)).trans ?_
  simp
theorem au_int0 {o : Op} {a b : Int} {Q : Val → Store → Prop} : wp (augVal o (.int a) (.int b)) st Q ↔ optB (binop o (.int a) (.int b) st) fun v => Q v st := by
  show wp (lift ((binInt o a b).map Val.int)) st Q ↔ optB ((binInt o a b).map Val.int) fun v => Q v st
  rw [wp_lift]; exact Iff.rfl
theorem au_int {o : Op} {a b : Int} {Q : Val → Store → Prop} : wq (augVal o (.int a) (.int b)) st Q ↔ optB (binop o (.int a) (.int b) st) fun v => Q v st := au_int0
/-! ### items -/
theorem i_tup {xs : List Val} {k : Int} : idxVal (.tup xs) (.int k) st = L2.atI xs k := idx_tup
theorem i_ktup {xs : List Val} {k : Int} : idxVal (.ktup xs) (.int k) st = L2.atI xs k := by simp [idxVal, dctOf, seqOf, tupOf]
theorem i_lst {xs : List Val} {k : Int} : idxVal (.lst xs) (.int k) st = L2.atI xs k := idx_lst
theorem i_klst {xs : List Val} {k : Int} : idxVal (.klst xs) (.int k) st = L2.atI xs k := by simp [idxVal, dctOf, seqOf, tupOf, lstOf]
theorem i_kdct {kvs : List (Str × Val)} {s : Str} : idxVal (.kdct kvs) (.str s) st = getF kvs s := (rfl)
theorem i_dct {kvs : List (Val × Val)} {s : Str} : idxVal (.dct kvs) (.str s) st = getK kvs (.str s) := (rfl)
theorem at0 {α : Type} {a : α} {r : List α} : L2.atI (a :: r) 0 = some a := by simp [L2.atI, L2.ixN]
theorem at1 {α : Type} {a b : α} {r : List α} : L2.atI (a :: b :: r) 1 = some b := by
  have : (1 : Int) < (r.length : Int) + 1 + 1 := by omega
  simp [L2.atI, L2.ixN, this]
theorem at2 {α : Type} {a b c : α} {r : List α} : L2.atI (a :: b :: c :: r) 2 = some c := by
  have : (2 : Int) < (r.length : Int) + 1 + 1 + 1 := by omega
  simp [L2.atI, L2.ixN, this]
theorem at3 {α : Type} {a b c d : α} {r : List α} : L2.atI (a :: b :: c :: d :: r) 3 = some d := by
  have : (3 : Int) < (r.length : Int) + 1 + 1 + 1 + 1 := by omega
  simp [L2.atI, L2.ixN, this]
theorem at4 {α : Type} {a b c d e : α} {r : List α} : L2.atI (a :: b :: c :: d :: e :: r) 4 = some e := by
  have : (4 : Int) < (r.length : Int) + 1 + 1 + 1 + 1 + 1 := by omega
  simp [L2.atI, L2.ixN, this]
theorem at5 {α : Type} {a0 a1 a2 a3 a4 a5 : α} {r : List α} : L2.atI (a0 :: a1 :: a2 :: a3 :: a4 :: a5 :: r) 5 = some a5 := by
  have : (5 : Int) < (r.length : Int) + 1 + 1 + 1 + 1 + 1 + 1 := by omega
  simp [L2.atI, L2.ixN, this]
theorem at6 {α : Type} {a0 a1 a2 a3 a4 a5 a6 : α} {r : List α} : L2.atI (a0 :: a1 :: a2 :: a3 :: a4 :: a5 :: a6 :: r) 6 = some a6 := by
  have : (6 : Int) < (r.length : Int) + 1 + 1 + 1 + 1 + 1 + 1 + 1 := by omega
  simp [L2.atI, L2.ixN, this]
theorem at7 {α : Type} {a0 a1 a2 a3 a4 a5 a6 a7 : α} {r : List α} : L2.atI (a0 :: a1 :: a2 :: a3 :: a4 :: a5 :: a6 :: a7 :: r) 7 = some a7 := by
  have : (7 : Int) < (r.length : Int) + 1 + 1 + 1 + 1 + 1 + 1 + 1 + 1 := by omega
  simp [L2.atI, L2.ixN, this]
theorem at8 {α : Type} {a0 a1 a2 a3 a4 a5 a6 a7 a8 : α} {r : List α} : L2.atI (a0 :: a1 :: a2 :: a3 :: a4 :: a5 :: a6 :: a7 :: a8 :: r) 8 = some a8 := by
  have : (8 : Int) < (r.length : Int) + 1 + 1 + 1 + 1 + 1 + 1 + 1 + 1 + 1 := by omega
  simp [L2.atI, L2.ixN, this]
theorem at9 {α : Type} {a0 a1 a2 a3 a4 a5 a6 a7 a8 a9 : α} {r : List α} : L2.atI (a0 :: a1 :: a2 :: a3 :: a4 :: a5 :: a6 :: a7 :: a8 :: a9 :: r) 9 = some a9 := by
  have : (9 : Int) < (r.length : Int) + 1 + 1 + 1 + 1 + 1 + 1 + 1 + 1 + 1 + 1 := by omega
  simp [L2.atI, L2.ixN, this]
theorem at10 {α : Type} {a0 a1 a2 a3 a4 a5 a6 a7 a8 a9 a10 : α} {r : List α} : L2.atI (a0 :: a1 :: a2 :: a3 :: a4 :: a5 :: a6 :: a7 :: a8 :: a9 :: a10 :: r) 10 = some a10 := by
  have : (10 : Int) < (r.length : Int) + 1 + 1 + 1 + 1 + 1 + 1 + 1 + 1 + 1 + 1 + 1 := by omega
  simp [L2.atI, L2.ixN, this]
theorem at11 {α : Type} {a0 a1 a2 a3 a4 a5 a6 a7 a8 a9 a10 a11 : α} {r : List α} : L2.atI (a0 :: a1 :: a2 :: a3 :: a4 :: a5 :: a6 :: a7 :: a8 :: a9 :: a10 :: a11 :: r) 11 = some a11 := by
  have : (11 : Int) < (r.length : Int) + 1 + 1 + 1 + 1 + 1 + 1 + 1 + 1 + 1 + 1 + 1 + 1 := by omega
  simp [L2.atI, L2.ixN, this]
theorem at12 {α : Type} {a0 a1 a2 a3 a4 a5 a6 a7 a8 a9 a10 a11 a12 : α} {r : List α} : L2.atI (a0 :: a1 :: a2 :: a3 :: a4 :: a5 :: a6 :: a7 :: a8 :: a9 :: a10 :: a11 :: a12 :: r) 12 = some a12 := by
  have : (12 : Int) < (r.length : Int) + 1 + 1 + 1 + 1 + 1 + 1 + 1 + 1 + 1 + 1 + 1 + 1 + 1 := by omega
  simp [L2.atI, L2.ixN, this]
theorem at13 {α : Type} {a0 a1 a2 a3 a4 a5 a6 a7 a8 a9 a10 a11 a12 a13 : α} {r : List α} : L2.atI (a0 :: a1 :: a2 :: a3 :: a4 :: a5 :: a6 :: a7 :: a8 :: a9 :: a10 :: a11 :: a12 :: a13 :: r) 13 = some a13 := by
  have : (13 : Int) < (r.length : Int) + 1 + 1 + 1 + 1 + 1 + 1 + 1 + 1 + 1 + 1 + 1 + 1 + 1 + 1 := by omega
  simp [L2.atI, L2.ixN, this]
theorem at14 {α : Type} {a0 a1 a2 a3 a4 a5 a6 a7 a8 a9 a10 a11 a12 a13 a14 : α} {r : List α} : L2.atI (a0 :: a1 :: a2 :: a3 :: a4 :: a5 :: a6 :: a7 :: a8 :: a9 :: a10 :: a11 :: a12 :: a13 :: a14 :: r) 14 = some a14 := by
  have : (14 : Int) < (r.length : Int) + 1 + 1 + 1 + 1 + 1 + 1 + 1 + 1 + 1 + 1 + 1 + 1 + 1 + 1 + 1 := by omega
  simp [L2.atI, L2.ixN, this]
theorem at15 {α : Type} {a0 a1 a2 a3 a4 a5 a6 a7 a8 a9 a10 a11 a12 a13 a14 a15 : α} {r : List α} : L2.atI (a0 :: a1 :: a2 :: a3 :: a4 :: a5 :: a6 :: a7 :: a8 :: a9 :: a10 :: a11 :: a12 :: a13 :: a14 :: a15 :: r) 15 = some a15 := by
  have : (15 : Int) < (r.length : Int) + 1 + 1 + 1 + 1 + 1 + 1 + 1 + 1 + 1 + 1 + 1 + 1 + 1 + 1 + 1 + 1 := by omega
  simp [L2.atI, L2.ixN, this]
theorem at16 {α : Type} {a0 a1 a2 a3 a4 a5 a6 a7 a8 a9 a10 a11 a12 a13 a14 a15 a16 : α} {r : List α} : L2.atI (a0 :: a1 :: a2 :: a3 :: a4 :: a5 :: a6 :: a7 :: a8 :: a9 :: a10 :: a11 :: a12 :: a13 :: a14 :: a15 :: a16 :: r) 16 = some a16 := by
  have : (16 : Int) < (r.length : Int) + 1 + 1 + 1 + 1 + 1 + 1 + 1 + 1 + 1 + 1 + 1 + 1 + 1 + 1 + 1 + 1 + 1 := by omega
  simp [L2.atI, L2.ixN, this]
theorem at17 {α : Type} {a0 a1 a2 a3 a4 a5 a6 a7 a8 a9 a10 a11 a12 a13 a14 a15 a16 a17 : α} {r : List α} : L2.atI (a0 :: a1 :: a2 :: a3 :: a4 :: a5 :: a6 :: a7 :: a8 :: a9 :: a10 :: a11 :: a12 :: a13 :: a14 :: a15 :: a16 :: a17 :: r) 17 = some a17 := by
  have : (17 : Int) < (r.length : Int) + 1 + 1 + 1 + 1 + 1 + 1 + 1 + 1 + 1 + 1 + 1 + 1 + 1 + 1 + 1 + 1 + 1 + 1 := by omega
  simp [L2.atI, L2.ixN, this]
theorem at18 {α : Type} {a0 a1 a2 a3 a4 a5 a6 a7 a8 a9 a10 a11 a12 a13 a14 a15 a16 a17 a18 : α} {r : List α} : L2.atI (a0 :: a1 :: a2 :: a3 :: a4 :: a5 :: a6 :: a7 :: a8 :: a9 :: a10 :: a11 :: a12 :: a13 :: a14 :: a15 :: a16 :: a17 :: a18 :: r) 18 = some a18 := by
  have : (18 : Int) < (r.length : Int) + 1 + 1 + 1 + 1 + 1 + 1 + 1 + 1 + 1 + 1 + 1 + 1 + 1 + 1 + 1 + 1 + 1 + 1 + 1 := by omega
  simp [L2.atI, L2.ixN, this]
theorem at19 {α : Type} {a0 a1 a2 a3 a4 a5 a6 a7 a8 a9 a10 a11 a12 a13 a14 a15 a16 a17 a18 a19 : α} {r : List α} : L2.atI (a0 :: a1 :: a2 :: a3 :: a4 :: a5 :: a6 :: a7 :: a8 :: a9 :: a10 :: a11 :: a12 :: a13 :: a14 :: a15 :: a16 :: a17 :: a18 :: a19 :: r) 19 = some a19 := by
  have : (19 : Int) < (r.length : Int) + 1 + 1 + 1 + 1 + 1 + 1 + 1 + 1 + 1 + 1 + 1 + 1 + 1 + 1 + 1 + 1 + 1 + 1 + 1 + 1 := by omega
  simp [L2.atI, L2.ixN, this]
theorem at20 {α : Type} {a0 a1 a2 a3 a4 a5 a6 a7 a8 a9 a10 a11 a12 a13 a14 a15 a16 a17 a18 a19 a20 : α} {r : List α} : L2.atI (a0 :: a1 :: a2 :: a3 :: a4 :: a5 :: a6 :: a7 :: a8 :: a9 :: a10 :: a11 :: a12 :: a13 :: a14 :: a15 :: a16 :: a17 :: a18 :: a19 :: a20 :: r) 20 = some a20 := by
  have : (20 : Int) < (r.length : Int) + 1 + 1 + 1 + 1 + 1 + 1 + 1 + 1 + 1 + 1 + 1 + 1 + 1 + 1 + 1 + 1 + 1 + 1 + 1 + 1 + 1 := by omega
  simp [L2.atI, L2.ixN, this]
theorem at21 {α : Type} {a0 a1 a2 a3 a4 a5 a6 a7 a8 a9 a10 a11 a12 a13 a14 a15 a16 a17 a18 a19 a20 a21 : α} {r : List α} : L2.atI (a0 :: a1 :: a2 :: a3 :: a4 :: a5 :: a6 :: a7 :: a8 :: a9 :: a10 :: a11 :: a12 :: a13 :: a14 :: a15 :: a16 :: a17 :: a18 :: a19 :: a20 :: a21 :: r) 21 = some a21 := by
  have : (21 : Int) < (r.length : Int) + 1 + 1 + 1 + 1 + 1 + 1 + 1 + 1 + 1 + 1 + 1 + 1 + 1 + 1 + 1 + 1 + 1 + 1 + 1 + 1 + 1 + 1 := by omega
  simp [L2.atI, L2.ixN, this]
theorem at22 {α : Type} {a0 a1 a2 a3 a4 a5 a6 a7 a8 a9 a10 a11 a12 a13 a14 a15 a16 a17 a18 a19 a20 a21 a22 : α} {r : List α} : L2.atI (a0 :: a1 :: a2 :: a3 :: a4 :: a5 :: a6 :: a7 :: a8 :: a9 :: a10 :: a11 :: a12 :: a13 :: a14 :: a15 :: a16 :: a17 :: a18 :: a19 :: a20 :: a21 :: a22 :: r) 22 = some a22 := by
  have : (22 : Int) < (r.length : Int) + 1 + 1 + 1 + 1 + 1 + 1 + 1 + 1 + 1 + 1 + 1 + 1 + 1 + 1 + 1 + 1 + 1 + 1 + 1 + 1 + 1 + 1 + 1 := by omega
  simp [L2.atI, L2.ixN, this]
theorem at23 {α : Type} {a0 a1 a2 a3 a4 a5 a6 a7 a8 a9 a10 a11 a12 a13 a14 a15 a16 a17 a18 a19 a20 a21 a22 a23 : α} {r : List α} : L2.atI (a0 :: a1 :: a2 :: a3 :: a4 :: a5 :: a6 :: a7 :: a8 :: a9 :: a10 :: a11 :: a12 :: a13 :: a14 :: a15 :: a16 :: a17 :: a18 :: a19 :: a20 :: a21 :: a22 :: a23 :: r) 23 = some a23 := by
  have : (23 : Int) < (r.length : Int) + 1 + 1 + 1 + 1 + 1 + 1 + 1 + 1 + 1 + 1 + 1 + 1 + 1 + 1 + 1 + 1 + 1 + 1 + 1 + 1 + 1 + 1 + 1 + 1 := by omega
  simp [L2.atI, L2.ixN, this]
theorem at24 {α : Type} {a0 a1 a2 a3 a4 a5 a6 a7 a8 a9 a10 a11 a12 a13 a14 a15 a16 a17 a18 a19 a20 a21 a22 a23 a24 : α} {r : List α} : L2.atI (a0 :: a1 :: a2 :: a3 :: a4 :: a5 :: a6 :: a7 :: a8 :: a9 :: a10 :: a11 :: a12 :: a13 :: a14 :: a15 :: a16 :: a17 :: a18 :: a19 :: a20 :: a21 :: a22 :: a23 :: a24 :: r) 24 = some a24 := by
  have : (24 : Int) < (r.length : Int) + 1 + 1 + 1 + 1 + 1 + 1 + 1 + 1 + 1 + 1 + 1 + 1 + 1 + 1 + 1 + 1 + 1 + 1 + 1 + 1 + 1 + 1 + 1 + 1 + 1 := by omega
  simp [L2.atI, L2.ixN, this]
theorem at25 {α : Type} {a0 a1 a2 a3 a4 a5 a6 a7 a8 a9 a10 a11 a12 a13 a14 a15 a16 a17 a18 a19 a20 a21 a22 a23 a24 a25 : α} {r : List α} : L2.atI (a0 :: a1 :: a2 :: a3 :: a4 :: a5 :: a6 :: a7 :: a8 :: a9 :: a10 :: a11 :: a12 :: a13 :: a14 :: a15 :: a16 :: a17 :: a18 :: a19 :: a20 :: a21 :: a22 :: a23 :: a24 :: a25 :: r) 25 = some a25 := by
  have : (25 : Int) < (r.length : Int) + 1 + 1 + 1 + 1 + 1 + 1 + 1 + 1 + 1 + 1 + 1 + 1 + 1 + 1 + 1 + 1 + 1 + 1 + 1 + 1 + 1 + 1 + 1 + 1 + 1 + 1 := by omega
  simp [L2.atI, L2.ixN, this]
theorem atm1 {α : Type} {a : α} : L2.atI [a] (-1) = some a := by simp [L2.atI, L2.ixN]
theorem atm2 {α : Type} {a b : α} : L2.atI [a, b] (-1) = some b := by simp [L2.atI, L2.ixN]
theorem atm3 {α : Type} {a b c : α} : L2.atI [a, b, c] (-1) = some c := by simp [L2.atI, L2.ixN]
theorem atm4 {α : Type} {a b c d : α} : L2.atI [a, b, c, d] (-1) = some d := by simp [L2.atI, L2.ixN]
theorem atm5 {α : Type} {a b c d e : α} : L2.atI [a, b, c, d, e] (-1) = some e := by simp [L2.atI, L2.ixN]
theorem gf_nil {s : Str} : getF [] s = none := (rfl)
theorem gf_cons {g s : Str} {v : Val} {r : List (Str × Val)} : getF ((g, v) :: r) s = if g = s then some v else getF r s := (rfl)
theorem gk_nil {s : Val} : getK [] s = none := (rfl)
theorem gk_cons {g s v : Val} {r : List (Val × Val)} : getK ((g, v) :: r) s = if g = s then some v else getK r s := by
  unfold getK
  rw [List.find?_cons]
  by_cases h : g = s <;> simp [h]
theorem gk_str {g s : Str} {v : Val} {r : List (Val × Val)} : getK ((.str g, v) :: r) (.str s) = if g = s then some v else getK r (.str s) := by
  rw [gk_cons]; simp
/-! ### built-in functions -/
theorem b_len_lst0 {cc : Bool} {xs : List Val} {Q : Val → Store → Prop} : wp (bltVal cc .len [.lst xs]) st Q ↔ Q (.int xs.length) st := len_lst
theorem b_len_lst {cc : Bool} {xs : List Val} {Q : Val → Store → Prop} : wq (bltVal cc .len [.lst xs]) st Q ↔ Q (.int xs.length) st := b_len_lst0
theorem b_len_tup0 {cc : Bool} {xs : List Val} {Q : Val → Store → Prop} : wp (bltVal cc .len [.tup xs]) st Q ↔ Q (.int xs.length) st := by
  unfold bltVal; rw [wp_look]; simp [seqOf, tupOf]
theorem b_len_tup {cc : Bool} {xs : List Val} {Q : Val → Store → Prop} : wq (bltVal cc .len [.tup xs]) st Q ↔ Q (.int xs.length) st := b_len_tup0
theorem b_len_ktup0 {cc : Bool} {xs : List Val} {Q : Val → Store → Prop} : wp (bltVal cc .len [.ktup xs]) st Q ↔ Q (.int xs.length) st := by
  unfold bltVal; rw [wp_look]; simp [seqOf, tupOf]
theorem b_len_ktup {cc : Bool} {xs : List Val} {Q : Val → Store → Prop} : wq (bltVal cc .len [.ktup xs]) st Q ↔ Q (.int xs.length) st := b_len_ktup0
theorem b_len_klst0 {cc : Bool} {xs : List Val} {Q : Val → Store → Prop} : wp (bltVal cc .len [.klst xs]) st Q ↔ Q (.int xs.length) st := by
  unfold bltVal; rw [wp_look]; simp [seqOf, tupOf, lstOf]
theorem b_len_klst {cc : Bool} {xs : List Val} {Q : Val → Store → Prop} : wq (bltVal cc .len [.klst xs]) st Q ↔ Q (.int xs.length) st := b_len_klst0
theorem b_len_str0 {cc : Bool} {x : Str} {Q : Val → Store → Prop} : wp (bltVal cc .len [.str x]) st Q ↔ x.length ≤ sizeLine ∧ Q (.int x.length) st := by
  unfold bltVal; rw [wp_look]
  exact if_some
theorem b_len_str {cc : Bool} {x : Str} {Q : Val → Store → Prop} : wq (bltVal cc .len [.str x]) st Q ↔ x.length ≤ sizeLine ∧ Q (.int x.length) st := b_len_str0
theorem b_int0 {cc : Bool} {i : Int} {Q : Val → Store → Prop} : wp (bltVal cc .int [.int i]) st Q ↔ Q (.int i) st := wp_pure
theorem b_int {cc : Bool} {i : Int} {Q : Val → Store → Prop} : wq (bltVal cc .int [.int i]) st Q ↔ Q (.int i) st := b_int0
theorem b_intb0 {cc : Bool} {b : Bool} {Q : Val → Store → Prop} : wp (bltVal cc .int [.bl b]) st Q ↔ Q (.int (if b then 1 else 0)) st := wp_pure
theorem b_intb {cc : Bool} {b : Bool} {Q : Val → Store → Prop} : wq (bltVal cc .int [.bl b]) st Q ↔ Q (.int (if b then 1 else 0)) st := b_intb0
theorem b_abs0 {cc : Bool} {i : Int} {Q : Val → Store → Prop} : wp (bltVal cc .abs [.int i]) st Q ↔ Q (.int (if i < 0 then -i else i)) st := wp_pure
theorem b_abs {cc : Bool} {i : Int} {Q : Val → Store → Prop} : wq (bltVal cc .abs [.int i]) st Q ↔ Q (.int (if i < 0 then -i else i)) st := b_abs0
theorem max_if {a b : Int} : (if b > a then b else a) = max a b := by omega
theorem min_if {a b : Int} : (if b < a then b else a) = min a b := by omega
theorem b_max0 {cc : Bool} {a b : Int} {Q : Val → Store → Prop} : wp (bltVal cc .max2 [.int a, .int b]) st Q ↔ Q (.int (max a b)) st := by
  rw [← max_if]; exact wp_pure
theorem b_max {cc : Bool} {a b : Int} {Q : Val → Store → Prop} : wq (bltVal cc .max2 [.int a, .int b]) st Q ↔ Q (.int (max a b)) st := b_max0
theorem b_min0 {cc : Bool} {a b : Int} {Q : Val → Store → Prop} : wp (bltVal cc .min2 [.int a, .int b]) st Q ↔ Q (.int (min a b)) st := by
  rw [← min_if]; exact wp_pure
theorem b_min {cc : Bool} {a b : Int} {Q : Val → Store → Prop} : wq (bltVal cc .min2 [.int a, .int b]) st Q ↔ Q (.int (min a b)) st := b_min0
theorem b_tupL0 {cc : Bool} {xs : List Val} {Q : Val → Store → Prop} : wp (bltVal cc .tuple [.lst xs]) st Q ↔ Q (.tup xs) st := blt_tuple
theorem b_tupL {cc : Bool} {xs : List Val} {Q : Val → Store → Prop} : wq (bltVal cc .tuple [.lst xs]) st Q ↔ Q (.tup xs) st := b_tupL0
theorem b_tupT0 {cc : Bool} {xs : List Val} {Q : Val → Store → Prop} : wp (bltVal cc .tuple [.tup xs]) st Q ↔ Q (.tup xs) st := by
  unfold bltVal; rw [wp_look]; simp [tupOf]
theorem b_tupT {cc : Bool} {xs : List Val} {Q : Val → Store → Prop} : wq (bltVal cc .tuple [.tup xs]) st Q ↔ Q (.tup xs) st := b_tupT0
theorem b_lstL0 {cc : Bool} {xs : List Val} {Q : Val → Store → Prop} : wp (bltVal cc .list [.lst xs]) st Q ↔ wp (mkLst cc xs) st Q := by
  rw [show bltVal cc .list [.lst xs] = (do let xs ← look fun st => seqOf st (.lst xs); mkLst cc xs) from rfl, wp_bind, wp_look]
  simp [seqOf, tupOf, lstOf]
theorem b_lstL {cc : Bool} {xs : List Val} {Q : Val → Store → Prop} : wq (bltVal cc .list [.lst xs]) st Q ↔ wq (mkLst cc xs) st Q := b_lstL0
theorem b_lstT0 {cc : Bool} {xs : List Val} {Q : Val → Store → Prop} : wp (bltVal cc .list [.tup xs]) st Q ↔ wp (mkLst cc xs) st Q := by
  rw [show bltVal cc .list [.tup xs] = (do let xs ← look fun st => seqOf st (.tup xs); mkLst cc xs) from rfl, wp_bind, wp_look]
  simp [seqOf, tupOf]
theorem b_lstT {cc : Bool} {xs : List Val} {Q : Val → Store → Prop} : wq (bltVal cc .list [.tup xs]) st Q ↔ wq (mkLst cc xs) st Q := b_lstT0
theorem b_lstKL0 {cc : Bool} {xs : List Val} {Q : Val → Store → Prop} : wp (bltVal cc .list [.klst xs]) st Q ↔ wp (mkLst cc xs) st Q := by
  rw [show bltVal cc .list [.klst xs] = (do let xs ← look fun st => seqOf st (.klst xs); mkLst cc xs) from rfl, wp_bind, wp_look]
  simp [seqOf, tupOf, lstOf]
theorem b_lstKL {cc : Bool} {xs : List Val} {Q : Val → Store → Prop} : wq (bltVal cc .list [.klst xs]) st Q ↔ wq (mkLst cc xs) st Q := b_lstKL0
theorem b_sum0 {cc : Bool} {xs : List Int} {Q : Val → Store → Prop} : wp (bltVal cc .sum [.lst (xs.map .int)]) st Q ↔ Q (.int xs.sum) st := blt_sum
theorem b_sum {cc : Bool} {xs : List Int} {Q : Val → Store → Prop} : wq (bltVal cc .sum [.lst (xs.map .int)]) st Q ↔ Q (.int xs.sum) st := b_sum0
/-! ### new lists -/
theorem m_f0 {xs : List Val} {Q : Val → Store → Prop} : wp (mkLst false xs) st Q ↔ Q (.lst xs) st := wp_mkF
theorem m_f {xs : List Val} {Q : Val → Store → Prop} : wq (mkLst false xs) st Q ↔ Q (.lst xs) st := m_f0
theorem m_t0 {xs : List Val} {Q : Val → Store → Prop} : wp (mkLst true xs) st Q ↔ Q (.ref st.length) (st ++ [.lst xs]) := wp_mkT
theorem m_t {xs : List Val} {Q : Val → Store → Prop} : wq (mkLst true xs) st Q ↔ Q (.ref st.length) (st ++ [.lst xs]) := m_t0
/-! ### names -/
theorem g_zero {a : Option Val} {ρ : Mn.Env} : getVar (a :: ρ) 0 = a := gv_zero
theorem g_succ {a : Option Val} {ρ : Mn.Env} {i : Nat} : getVar (a :: ρ) (i + 1) = getVar ρ i := (rfl)
theorem s_zero {a x : Option Val} {ρ : Mn.Env} : (a :: ρ : Mn.Env).set 0 x = x :: ρ := (rfl)
theorem s_succ {a x : Option Val} {ρ : Mn.Env} {i : Nat} : (a :: ρ : Mn.Env).set (i + 1) x = a :: ρ.set i x := (rfl)
theorem w_nil {ρ : Mn.Env} : wipeE ρ [] = ρ := (rfl)
theorem w_cons {ρ : Mn.Env} {i : Nat} {is : List Nat} : wipeE ρ (i :: is) = (wipeE ρ is).set i none := (rfl)
theorem ts_nm {i : Nat} : tgSlots (.nm i) = [i] := (rfl)
theorem ts_nms {is : List Nat} : tgSlots (.nms is) = is := (rfl)
theorem bt_nm {i : Nat} {v : Val} {ρ : Mn.Env} : bindTg (.nm i) v ρ = some (ρ.set i (some v)) := (rfl)
theorem bt_nms {is : List Nat} {xs : List Val} {ρ : Mn.Env} : bindTg (.nms is) (.tup xs) ρ = setAll is xs ρ := (rfl)
theorem sa_nil {ρ : Mn.Env} : setAll [] [] ρ = some ρ := (rfl)
theorem sa_cons {i : Nat} {is : List Nat} {v : Val} {vs : List Val} {ρ : Mn.Env} : setAll (i :: is) (v :: vs) ρ = setAll is vs (ρ.set i (some v)) := (rfl)
theorem l_nil {α : Type} : ([] : List α).length = 0 := (rfl)
theorem l_cons {α : Type} {a : α} {r : List α} : (a :: r).length = r.length + 1 := (rfl)
theorem size_is : sizeLine = 16777216 := sizeLine_eq
theorem ty_non_int : isTy st .non (Str.ofString "int") = some false := by kernel_rfl
theorem ty_non_bool : isTy st .non (Str.ofString "bool") = some false := by kernel_rfl
theorem ty_non_str : isTy st .non (Str.ofString "str") = some false := by kernel_rfl
theorem ty_non_tuple : isTy st .non (Str.ofString "tuple") = some false := by kernel_rfl
theorem ty_non_list : isTy st .non (Str.ofString "list") = some false := by kernel_rfl
theorem ty_non_dict : isTy st .non (Str.ofString "dict") = some false := by kernel_rfl
theorem ty_bl_int {b : Bool} : isTy st (.bl b) (Str.ofString "int") = some true := by kernel_rfl
theorem ty_bl_bool {b : Bool} : isTy st (.bl b) (Str.ofString "bool") = some true := by kernel_rfl
theorem ty_bl_str {b : Bool} : isTy st (.bl b) (Str.ofString "str") = some false := by kernel_rfl
theorem ty_bl_tuple {b : Bool} : isTy st (.bl b) (Str.ofString "tuple") = some false := by kernel_rfl
theorem ty_bl_list {b : Bool} : isTy st (.bl b) (Str.ofString "list") = some false := by kernel_rfl
theorem ty_bl_dict {b : Bool} : isTy st (.bl b) (Str.ofString "dict") = some false := by kernel_rfl
theorem ty_int_int {i : Int} : isTy st (.int i) (Str.ofString "int") = some true := by kernel_rfl
theorem ty_int_bool {i : Int} : isTy st (.int i) (Str.ofString "bool") = some false := by kernel_rfl
theorem ty_int_str {i : Int} : isTy st (.int i) (Str.ofString "str") = some false := by kernel_rfl
theorem ty_int_tuple {i : Int} : isTy st (.int i) (Str.ofString "tuple") = some false := by kernel_rfl
theorem ty_int_list {i : Int} : isTy st (.int i) (Str.ofString "list") = some false := by kernel_rfl
theorem ty_int_dict {i : Int} : isTy st (.int i) (Str.ofString "dict") = some false := by kernel_rfl
theorem ty_str_int {x : Str} : isTy st (.str x) (Str.ofString "int") = some false := by kernel_rfl
theorem ty_str_bool {x : Str} : isTy st (.str x) (Str.ofString "bool") = some false := by kernel_rfl
theorem ty_str_str {x : Str} : isTy st (.str x) (Str.ofString "str") = some true := by kernel_rfl
theorem ty_str_tuple {x : Str} : isTy st (.str x) (Str.ofString "tuple") = some false := by kernel_rfl
theorem ty_str_list {x : Str} : isTy st (.str x) (Str.ofString "list") = some false := by kernel_rfl
theorem ty_str_dict {x : Str} : isTy st (.str x) (Str.ofString "dict") = some false := by kernel_rfl
theorem ty_tup_int {xs : List Val} : isTy st (.tup xs) (Str.ofString "int") = some false := by kernel_rfl
theorem ty_tup_bool {xs : List Val} : isTy st (.tup xs) (Str.ofString "bool") = some false := by kernel_rfl
theorem ty_tup_str {xs : List Val} : isTy st (.tup xs) (Str.ofString "str") = some false := by kernel_rfl
theorem ty_tup_tuple {xs : List Val} : isTy st (.tup xs) (Str.ofString "tuple") = some true := by kernel_rfl
theorem ty_tup_list {xs : List Val} : isTy st (.tup xs) (Str.ofString "list") = some false := by kernel_rfl
theorem ty_tup_dict {xs : List Val} : isTy st (.tup xs) (Str.ofString "dict") = some false := by kernel_rfl
theorem ty_lst_int {xs : List Val} : isTy st (.lst xs) (Str.ofString "int") = some false := by kernel_rfl
theorem ty_lst_bool {xs : List Val} : isTy st (.lst xs) (Str.ofString "bool") = some false := by kernel_rfl
theorem ty_lst_str {xs : List Val} : isTy st (.lst xs) (Str.ofString "str") = some false := by kernel_rfl
theorem ty_lst_tuple {xs : List Val} : isTy st (.lst xs) (Str.ofString "tuple") = some false := by kernel_rfl
theorem ty_lst_list {xs : List Val} : isTy st (.lst xs) (Str.ofString "list") = some true := by kernel_rfl
theorem ty_lst_dict {xs : List Val} : isTy st (.lst xs) (Str.ofString "dict") = some false := by kernel_rfl
theorem ty_dct_int {kvs : List (Val × Val)} : isTy st (.dct kvs) (Str.ofString "int") = some false := by kernel_rfl
theorem ty_dct_bool {kvs : List (Val × Val)} : isTy st (.dct kvs) (Str.ofString "bool") = some false := by kernel_rfl
theorem ty_dct_str {kvs : List (Val × Val)} : isTy st (.dct kvs) (Str.ofString "str") = some false := by kernel_rfl
theorem ty_dct_tuple {kvs : List (Val × Val)} : isTy st (.dct kvs) (Str.ofString "tuple") = some false := by kernel_rfl
theorem ty_dct_list {kvs : List (Val × Val)} : isTy st (.dct kvs) (Str.ofString "list") = some false := by kernel_rfl
theorem ty_dct_dict {kvs : List (Val × Val)} : isTy st (.dct kvs) (Str.ofString "dict") = some true := by kernel_rfl

/-! ### the parts of a text -/
theorem e_var0 {i : Nat} {Q : Val → Store → Prop} : wp (evalE c (.var i) ρ) st Q ↔ optB (getVar ρ i) fun v => Q v st := wp_var
theorem e_var {i : Nat} {Q : Val → Store → Prop} : wq (evalE c (.var i) ρ) st Q ↔ optB (getVar ρ i) fun v => Q v st := e_var0
theorem e_int0 {v : Int} {Q : Val → Store → Prop} : wp (evalE c (.cst (.int v)) ρ) st Q ↔ Q (.int v) st := wp_pure
theorem e_int {v : Int} {Q : Val → Store → Prop} : wq (evalE c (.cst (.int v)) ρ) st Q ↔ Q (.int v) st := e_int0
theorem e_str0 {v : Str} {Q : Val → Store → Prop} : wp (evalE c (.cst (.str v)) ρ) st Q ↔ Q (.str v) st := wp_pure
theorem e_str {v : Str} {Q : Val → Store → Prop} : wq (evalE c (.cst (.str v)) ρ) st Q ↔ Q (.str v) st := e_str0
theorem e_bl0 {v : Bool} {Q : Val → Store → Prop} : wp (evalE c (.cst (.bl v)) ρ) st Q ↔ Q (.bl v) st := wp_pure
theorem e_bl {v : Bool} {Q : Val → Store → Prop} : wq (evalE c (.cst (.bl v)) ρ) st Q ↔ Q (.bl v) st := e_bl0
theorem e_non0 {Q : Val → Store → Prop} : wp (evalE c (.cst .non) ρ) st Q ↔ Q .non st := wp_pure
theorem e_non {Q : Val → Store → Prop} : wq (evalE c (.cst .non) ρ) st Q ↔ Q .non st := e_non0
theorem e_nil0 {Q : List Val → Store → Prop} : wp (evalL c [] ρ) st Q ↔ Q [] st := wp_pure
theorem e_nil {Q : List Val → Store → Prop} : wq (evalL c [] ρ) st Q ↔ Q [] st := e_nil0
theorem e_cons0 {m : Ex} {ms : List Ex} {Q : List Val → Store → Prop} : wp (evalL c (m :: ms) ρ) st Q ↔ wp (evalE c m ρ) st fun v s => wp (evalL c ms ρ) s fun vs s => Q (v :: vs) s := wp_cons
theorem e_cons {m : Ex} {ms : List Ex} {Q : List Val → Store → Prop} : wq (evalL c (m :: ms) ρ) st Q ↔ wq (evalE c m ρ) st fun v s => wq (evalL c ms ρ) s fun vs s => Q (v :: vs) s := e_cons0
theorem e_tup0 {ms : List Ex} {Q : Val → Store → Prop} : wp (evalE c (.tup ms) ρ) st Q ↔ wp (evalL c ms ρ) st fun vs s => vs.length ≤ sizeLine ∧ Q (.tup vs) s := wp_tup
theorem e_tup {ms : List Ex} {Q : Val → Store → Prop} : wq (evalE c (.tup ms) ρ) st Q ↔ wq (evalL c ms ρ) st fun vs s => vs.length ≤ sizeLine ∧ Q (.tup vs) s := e_tup0
theorem e_lst0 {b : Bool} {ms : List Ex} {Q : Val → Store → Prop} : wp (evalE c (.lst b ms) ρ) st Q ↔ wp (evalL c ms ρ) st fun vs s => vs.length ≤ sizeLine ∧ wp (mkLst b vs) s Q := wp_lst
theorem e_lst {b : Bool} {ms : List Ex} {Q : Val → Store → Prop} : wq (evalE c (.lst b ms) ρ) st Q ↔ wq (evalL c ms ρ) st fun vs s => vs.length ≤ sizeLine ∧ wq (mkLst b vs) s Q := e_lst0
theorem e_bin0 {o : Op} {a b : Ex} {Q : Val → Store → Prop} : wp (evalE c (.bin o a b) ρ) st Q ↔ wp (evalE c a ρ) st fun x s => wp (evalE c b ρ) s fun y s => optB (binop o x y s) fun v => Q v s := wp_bin
theorem e_bin {o : Op} {a b : Ex} {Q : Val → Store → Prop} : wq (evalE c (.bin o a b) ρ) st Q ↔ wq (evalE c a ρ) st fun x s => wq (evalE c b ρ) s fun y s => optB (binop o x y s) fun v => Q v s := e_bin0
theorem e_neg0 {a : Ex} {Q : Val → Store → Prop} : wp (evalE c (.neg a) ρ) st Q ↔ wp (evalE c a ρ) st fun x s => ∃ i, x = .int i ∧ Q (.int (-i)) s := wp_neg
theorem e_neg {a : Ex} {Q : Val → Store → Prop} : wq (evalE c (.neg a) ρ) st Q ↔ wq (evalE c a ρ) st fun x s => ∃ i, x = .int i ∧ Q (.int (-i)) s := e_neg0
theorem e_not0 {a : Ex} {Q : Val → Store → Prop} : wp (evalE c (.not a) ρ) st Q ↔ wp (evalE c a ρ) st fun x s => optB (truthy x s) fun b => Q (.bl !b) s := wp_not
theorem e_not {a : Ex} {Q : Val → Store → Prop} : wq (evalE c (.not a) ρ) st Q ↔ wq (evalE c a ρ) st fun x s => optB (truthy x s) fun b => Q (.bl !b) s := e_not0
theorem e_cmp0 {o : Cm} {a b : Ex} {Q : Val → Store → Prop} : wp (evalE c (.cmp o a b) ρ) st Q ↔ wp (evalE c a ρ) st fun x s => wp (evalE c b ρ) s fun y s => optB (cmpVal o x y s) fun r => Q (.bl r) s := wp_cmp
theorem e_cmp {o : Cm} {a b : Ex} {Q : Val → Store → Prop} : wq (evalE c (.cmp o a b) ρ) st Q ↔ wq (evalE c a ρ) st fun x s => wq (evalE c b ρ) s fun y s => optB (cmpVal o x y s) fun r => Q (.bl r) s := e_cmp0
theorem e_chain0 {o p : Cm} {a b d : Ex} {Q : Val → Store → Prop} : wp (evalE c (.chain o p a b d) ρ) st Q ↔ wp (evalE c a ρ) st fun x s => wp (evalE c b ρ) s fun y s => optB (cmpVal o x y s) fun r => cond2 r (wp (evalE c d ρ) s fun z s => optB (cmpVal p y z s) fun r => Q (.bl r) s) (Q (.bl false) s) := wp_chain
theorem e_chain {o p : Cm} {a b d : Ex} {Q : Val → Store → Prop} : wq (evalE c (.chain o p a b d) ρ) st Q ↔ wq (evalE c a ρ) st fun x s => wq (evalE c b ρ) s fun y s => optB (cmpVal o x y s) fun r => cond2 r (wq (evalE c d ρ) s fun z s => optB (cmpVal p y z s) fun r => Q (.bl r) s) (Q (.bl false) s) := e_chain0
theorem e_and0 {a b : Ex} {Q : Val → Store → Prop} : wp (evalE c (.and a b) ρ) st Q ↔ wp (evalE c a ρ) st fun x s => optB (truthy x s) fun t => cond2 t (wp (evalE c b ρ) s Q) (Q x s) := wp_and
theorem e_and {a b : Ex} {Q : Val → Store → Prop} : wq (evalE c (.and a b) ρ) st Q ↔ wq (evalE c a ρ) st fun x s => optB (truthy x s) fun t => cond2 t (wq (evalE c b ρ) s Q) (Q x s) := e_and0
theorem e_or0 {a b : Ex} {Q : Val → Store → Prop} : wp (evalE c (.or a b) ρ) st Q ↔ wp (evalE c a ρ) st fun x s => optB (truthy x s) fun t => cond2 t (Q x s) (wp (evalE c b ρ) s Q) := wp_or
theorem e_or {a b : Ex} {Q : Val → Store → Prop} : wq (evalE c (.or a b) ρ) st Q ↔ wq (evalE c a ρ) st fun x s => optB (truthy x s) fun t => cond2 t (Q x s) (wq (evalE c b ρ) s Q) := e_or0
theorem e_ite0 {d a b : Ex} {Q : Val → Store → Prop} : wp (evalE c (.ite d a b) ρ) st Q ↔ wp (evalE c d ρ) st fun x s => optB (truthy x s) fun t => cond2 t (wp (evalE c a ρ) s Q) (wp (evalE c b ρ) s Q) := wp_ite
theorem e_ite {d a b : Ex} {Q : Val → Store → Prop} : wq (evalE c (.ite d a b) ρ) st Q ↔ wq (evalE c d ρ) st fun x s => optB (truthy x s) fun t => cond2 t (wq (evalE c a ρ) s Q) (wq (evalE c b ρ) s Q) := e_ite0
theorem e_idx0 {a i : Ex} {Q : Val → Store → Prop} : wp (evalE c (.idx a i) ρ) st Q ↔ wp (evalE c a ρ) st fun x s => wp (evalE c i ρ) s fun y s => optB (idxVal x y s) fun v => Q v s := wp_idx
theorem e_idx {a i : Ex} {Q : Val → Store → Prop} : wq (evalE c (.idx a i) ρ) st Q ↔ wq (evalE c a ρ) st fun x s => wq (evalE c i ρ) s fun y s => optB (idxVal x y s) fun v => Q v s := e_idx0
theorem e_rev0 {b : Bool} {a : Ex} {Q : Val → Store → Prop} : wp (evalE c (.rev b a) ρ) st Q ↔ wp (evalE c a ρ) st fun x s => optB (lstOf s x) fun xs => wp (mkLst b xs.reverse) s Q := wp_rev
theorem e_rev {b : Bool} {a : Ex} {Q : Val → Store → Prop} : wq (evalE c (.rev b a) ρ) st Q ↔ wq (evalE c a ρ) st fun x s => optB (lstOf s x) fun xs => wq (mkLst b xs.reverse) s Q := e_rev0
theorem e_fld0 {a : Ex} {f : Str} {Q : Val → Store → Prop} : wp (evalE c (.fld a f) ρ) st Q ↔ wp (evalE c a ρ) st fun x s => optB (((insOf s x).bind fun r => getF r.2.2 f)) fun v => Q v s := wp_fld
theorem e_fld {a : Ex} {f : Str} {Q : Val → Store → Prop} : wq (evalE c (.fld a f) ρ) st Q ↔ wq (evalE c a ρ) st fun x s => optB (((insOf s x).bind fun r => getF r.2.2 f)) fun v => Q v s := e_fld0
theorem e_call0 {f : Str} {ms : List Ex} {Q : Val → Store → Prop} : wp (evalE c (.call f ms) ρ) st Q ↔ wp (evalL c ms ρ) st fun vs s => wp (c.call f vs) s Q := wp_call
theorem e_call {f : Str} {ms : List Ex} {Q : Val → Store → Prop} : wq (evalE c (.call f ms) ρ) st Q ↔ wq (evalL c ms ρ) st fun vs s => wq (c.call f vs) s Q := e_call0
theorem e_blt0 {b : Bool} {o : Bl} {ms : List Ex} {Q : Val → Store → Prop} : wp (evalE c (.blt b o ms) ρ) st Q ↔ wp (evalL c ms ρ) st fun vs s => wp (bltVal b o vs) s Q := wp_blt
theorem e_blt {b : Bool} {o : Bl} {ms : List Ex} {Q : Val → Store → Prop} : wq (evalE c (.blt b o ms) ρ) st Q ↔ wq (evalL c ms ρ) st fun vs s => wq (bltVal b o vs) s Q := e_blt0
theorem e_isi0 {a : Ex} {T : Str} {Q : Val → Store → Prop} : wp (evalE c (.isi a T) ρ) st Q ↔ wp (evalE c a ρ) st fun x s => optB (isTy s x T) fun b => Q (.bl b) s := wp_isi
theorem e_isi {a : Ex} {T : Str} {Q : Val → Store → Prop} : wq (evalE c (.isi a T) ρ) st Q ↔ wq (evalE c a ρ) st fun x s => optB (isTy s x T) fun b => Q (.bl b) s := e_isi0
theorem e_comp0 {b : Bool} {elt : Ex} {t : Tg} {it : It} {ifs : List Ex} {Q : Val → Store → Prop} : wp (evalE c (.comp b elt t it ifs) ρ) st Q ↔ wp (evalI c it ρ) st fun w s =>
    wp (compLoop w t (wipeE ρ (tgSlots t)) (evalT c ifs) (fun ρ' => do let y ← evalE c elt ρ'; pure [y]) w.items) s fun ys s => ys.length ≤ sizeLine ∧ wp (mkLst b ys) s Q := wp_comp
theorem e_comp {b : Bool} {elt : Ex} {t : Tg} {it : It} {ifs : List Ex} {Q : Val → Store → Prop} : wq (evalE c (.comp b elt t it ifs) ρ) st Q ↔ wq (evalI c it ρ) st fun w s =>
    wq (compLoop w t (wipeE ρ (tgSlots t)) (evalT c ifs) (fun ρ' => do let y ← evalE c elt ρ'; pure [y]) w.items) s fun ys s => ys.length ≤ sizeLine ∧ wq (mkLst b ys) s Q := e_comp0
theorem e_comp20 {b : Bool} {elt : Ex} {t t1 : Tg} {it it1 : It} {ifs ifs1 : List Ex} {Q : Val → Store → Prop} : wp (evalE c (.comp2 b elt t it ifs t1 it1 ifs1) ρ) st Q ↔ wp (evalI c it ρ) st fun w s =>
    wp (compLoop w t (wipeE ρ (tgSlots t ++ tgSlots t1)) (evalT c ifs) (fun ρ' => do
      let w1 ← evalI c it1 ρ'
      compLoop w1 t1 (wipeE ρ' (tgSlots t1)) (evalT c ifs1) (fun ρ'' => do let y ← evalE c elt ρ''; pure [y]) w1.items) w.items) s fun ys s => ys.length ≤ sizeLine ∧ wp (mkLst b ys) s Q := by
  rw [show evalE c (.comp2 b elt t it ifs t1 it1 ifs1) ρ = (do
    let w ← evalI c it ρ
    let ys ← compLoop w t (wipeE ρ (tgSlots t ++ tgSlots t1)) (evalT c ifs) (fun ρ' => do
      let w1 ← evalI c it1 ρ'
      compLoop w1 t1 (wipeE ρ' (tgSlots t1)) (evalT c ifs1) (fun ρ'' => do let y ← evalE c elt ρ''; pure [y]) w1.items) w.items
    lenOk ys.length
    mkLst b ys) from rfl]
  simp only [wp_bind, wp_lenOk]
theorem e_comp2 {b : Bool} {elt : Ex} {t t1 : Tg} {it it1 : It} {ifs ifs1 : List Ex} {Q : Val → Store → Prop} : wq (evalE c (.comp2 b elt t it ifs t1 it1 ifs1) ρ) st Q ↔ wq (evalI c it ρ) st fun w s =>
    wq (compLoop w t (wipeE ρ (tgSlots t ++ tgSlots t1)) (evalT c ifs) (fun ρ' => do
      let w1 ← evalI c it1 ρ'
      compLoop w1 t1 (wipeE ρ' (tgSlots t1)) (evalT c ifs1) (fun ρ'' => do let y ← evalE c elt ρ''; pure [y]) w1.items) w.items) s fun ys s => ys.length ≤ sizeLine ∧ wq (mkLst b ys) s Q := e_comp20
theorem e_of0 {m : Ex} {Q : Walked → Store → Prop} : wp (evalI c (.of m) ρ) st Q ↔ wp (evalE c m ρ) st fun v s => optB (walkOf v s) fun w => Q w s := wp_of
theorem e_of {m : Ex} {Q : Walked → Store → Prop} : wq (evalI c (.of m) ρ) st Q ↔ wq (evalE c m ρ) st fun v s => optB (walkOf v s) fun w => Q w s := e_of0
theorem e_rng0 {ms : List Ex} {Q : Walked → Store → Prop} : wp (evalI c (.rng ms) ρ) st Q ↔ wp (evalL c ms ρ) st fun vs s => optB (rngWalk vs) fun w => Q w s := wp_rng
theorem e_rng {ms : List Ex} {Q : Walked → Store → Prop} : wq (evalI c (.rng ms) ρ) st Q ↔ wq (evalL c ms ρ) st fun vs s => optB (rngWalk vs) fun w => Q w s := e_rng0
theorem e_irev0 {m : Ex} {Q : Walked → Store → Prop} : wp (evalI c (.rev m) ρ) st Q ↔ wp (evalE c m ρ) st fun v s => optB (walkBack v s) fun w => Q w s := wp_irev
theorem e_irev {m : Ex} {Q : Walked → Store → Prop} : wq (evalI c (.rev m) ρ) st Q ↔ wq (evalE c m ρ) st fun v s => optB (walkBack v s) fun w => Q w s := e_irev0
theorem e_t00 {Q : Bool → Store → Prop} : wp (evalT c [] ρ) st Q ↔ Q true st := wp_pure
theorem e_t0 {Q : Bool → Store → Prop} : wq (evalT c [] ρ) st Q ↔ Q true st := e_t00
theorem e_t10 {m : Ex} {Q : Bool → Store → Prop} : wp (evalT c [m] ρ) st Q ↔ wp (evalE c m ρ) st fun v s => optB (truthy v s) fun t => Q t s := wp_t1
theorem e_t1 {m : Ex} {Q : Bool → Store → Prop} : wq (evalT c [m] ρ) st Q ↔ wq (evalE c m ρ) st fun v s => optB (truthy v s) fun t => Q t s := e_t10
theorem e_slc0 {b : Bool} {a : Ex} {lo hi : Option Ex} {Q : Val → Store → Prop} : wp (evalE c (.slc b a lo hi) ρ) st Q ↔ wp (evalE c a ρ) st fun x s => wp (evalO c lo ρ) s fun l s => wp (evalO c hi ρ) s fun h s => optB (intO l) fun l' => optB (intO h) fun h' => optB (slcVal x l' h' s) fun r => wp (cutM b r) s Q := by
  rw [show evalE c (.slc b a lo hi) ρ = (do let x ← evalE c a ρ; let l ← evalO c lo ρ; let h ← evalO c hi ρ; let l ← lift (intO l); let h ← lift (intO h); let r ← look (slcVal x l h); cutM b r) from rfl]
  simp only [wp_bind, wp_lift, wp_look]; exact Iff.rfl
theorem e_slc {b : Bool} {a : Ex} {lo hi : Option Ex} {Q : Val → Store → Prop} : wq (evalE c (.slc b a lo hi) ρ) st Q ↔ wq (evalE c a ρ) st fun x s => wq (evalO c lo ρ) s fun l s => wq (evalO c hi ρ) s fun h s => optB (intO l) fun l' => optB (intO h) fun h' => optB (slcVal x l' h' s) fun r => wq (cutM b r) s Q := e_slc0
theorem eo_none0 {Q : Option Val → Store → Prop} : wp (evalO c none ρ) st Q ↔ Q none st := wp_pure
theorem eo_none {Q : Option Val → Store → Prop} : wq (evalO c none ρ) st Q ↔ Q none st := eo_none0
theorem eo_some0 {m : Ex} {Q : Option Val → Store → Prop} : wp (evalO c (some m) ρ) st Q ↔ wp (evalE c m ρ) st fun v s => Q (some v) s := by
  rw [show evalO c (some m) ρ = (do let v ← evalE c m ρ; pure (some v)) from rfl]
  simp only [wp_bind, wp_pure]
theorem eo_some {m : Ex} {Q : Option Val → Store → Prop} : wq (evalO c (some m) ρ) st Q ↔ wq (evalE c m ρ) st fun v s => Q (some v) s := eo_some0
theorem io_none : intO none = some none := (rfl)
theorem io_some {i : Int} : intO (some (.int i)) = some (some i) := (rfl)
theorem sl_tup {xs : List Val} {l h : Option Int} : slcVal (.tup xs) l h st = some (.v (.tup (cutL xs l h))) := (rfl)
theorem sl_lst {xs : List Val} {l h : Option Int} : slcVal (.lst xs) l h st = some (.l (cutL xs l h)) := (rfl)
theorem cm_v0 {b : Bool} {v : Val} {Q : Val → Store → Prop} : wp (cutM b (.v v)) st Q ↔ Q v st := wp_pure
theorem cm_v {b : Bool} {v : Val} {Q : Val → Store → Prop} : wq (cutM b (.v v)) st Q ↔ Q v st := cm_v0
theorem cm_l0 {b : Bool} {xs : List Val} {Q : Val → Store → Prop} : wp (cutM b (.l xs)) st Q ↔ wp (mkLst b xs) st Q := Iff.rfl
theorem cm_l {b : Bool} {xs : List Val} {Q : Val → Store → Prop} : wq (cutM b (.l xs)) st Q ↔ wq (mkLst b xs) st Q := cm_l0
theorem e_bm0 {m : Bm} {e : Ex} {es : List Ex} {Q : Val → Store → Prop} : wp (evalE c (.bm m e es) ρ) st Q ↔ wp (evalE c e ρ) st fun x s => bmKind m x s = true ∧ wp (evalL c es ρ) s fun vs s => wp (bmVal m x vs) s Q := by
  rw [show evalE c (.bm m e es) ρ = (do let x ← evalE c e ρ; look fun st => if bmKind m x st then some () else none; let vs ← evalL c es ρ; bmVal m x vs) from rfl]
  simp only [wp_bind, wp_look]
  constructor
  · rintro ⟨x, s, h, u, h1, h2⟩
    refine ⟨x, s, h, ?_, h2⟩
    split at h1
    · assumption
    · cases h1
  · rintro ⟨x, s, h, h1, h2⟩
    exact ⟨x, s, h, (), by rw [if_pos h1], h2⟩
theorem e_bm {m : Bm} {e : Ex} {es : List Ex} {Q : Val → Store → Prop} : wq (evalE c (.bm m e es) ρ) st Q ↔ wq (evalE c e ρ) st fun x s => bmKind m x s = true ∧ wq (evalL c es ρ) s fun vs s => wq (bmVal m x vs) s Q := e_bm0
theorem e_lrng0 {b : Bool} {es : List Ex} {Q : Val → Store → Prop} : wp (evalE c (.lrng b es) ρ) st Q ↔ wp (evalL c es ρ) st fun vs s => optB (rngOf vs) fun r => wp (mkLst b (rngVals r.1 r.2)) s Q := by
  rw [show evalE c (.lrng b es) ρ = (do let vs ← evalL c es ρ; let r ← lift (rngOf vs); mkLst b (rngVals r.1 r.2)) from rfl]
  simp only [wp_bind, wp_lift]; exact Iff.rfl
theorem e_lrng {b : Bool} {es : List Ex} {Q : Val → Store → Prop} : wq (evalE c (.lrng b es) ρ) st Q ↔ wq (evalL c es ρ) st fun vs s => optB (rngOf vs) fun r => wq (mkLst b (rngVals r.1 r.2)) s Q := e_lrng0
theorem y_nil0 {Q : Flow → Store → Prop} : wp (execB c [] ρ) st Q ↔ Q (.nxt ρ) st := wb_nil
theorem y_nil {Q : Flow → Store → Prop} : wq (execB c [] ρ) st Q ↔ Q (.nxt ρ) st := y_nil0
theorem y_cons0 {s : Sm} {r : List Sm} {Q : Flow → Store → Prop} : wp (execB c (s :: r) ρ) st Q ↔ wp (execS c s ρ) st (nextQ c r Q) := wb_cons
theorem y_cons {s : Sm} {r : List Sm} {Q : Flow → Store → Prop} : wq (execB c (s :: r) ρ) st Q ↔ wq (execS c s ρ) st (nq c r Q) := y_cons0
theorem n_nxt0 {r : List Sm} {Q : Flow → Store → Prop} : nextQ c r Q (.nxt ρ) st ↔ wp (execB c r ρ) st Q := Iff.rfl
theorem n_nxt {r : List Sm} {Q : Flow → Store → Prop} : nq c r Q (.nxt ρ) st ↔ wq (execB c r ρ) st Q := n_nxt0
theorem n_ret0 {r : List Sm} {Q : Flow → Store → Prop} {v : Val} : nextQ c r Q (.ret v) st ↔ Q (.ret v) st := Iff.rfl
theorem n_ret {r : List Sm} {Q : Flow → Store → Prop} {v : Val} : nq c r Q (.ret v) st ↔ Q (.ret v) st := n_ret0
theorem n_brk0 {r : List Sm} {Q : Flow → Store → Prop} : nextQ c r Q (.brk ρ) st ↔ Q (.brk ρ) st := Iff.rfl
theorem n_brk {r : List Sm} {Q : Flow → Store → Prop} : nq c r Q (.brk ρ) st ↔ Q (.brk ρ) st := n_brk0
theorem n_cnt0 {r : List Sm} {Q : Flow → Store → Prop} : nextQ c r Q (.cnt ρ) st ↔ Q (.cnt ρ) st := Iff.rfl
theorem n_cnt {r : List Sm} {Q : Flow → Store → Prop} : nq c r Q (.cnt ρ) st ↔ Q (.cnt ρ) st := n_cnt0
theorem z_asg0 {t : Tgt} {e : Ex} {Q : Flow → Store → Prop} : wp (execS c (.asg t e) ρ) st Q ↔ wp (evalE c e ρ) st fun v s => wp (assignT c t v ρ) s fun ρ' s => Q (.nxt ρ') s := ws_asg
theorem z_asg {t : Tgt} {e : Ex} {Q : Flow → Store → Prop} : wq (execS c (.asg t e) ρ) st Q ↔ wq (evalE c e ρ) st fun v s => wq (assignT c t v ρ) s fun ρ' s => Q (.nxt ρ') s := z_asg0
theorem z_aug0 {t : Tgt} {o : Op} {e : Ex} {Q : Flow → Store → Prop} : wp (execS c (.aug t o e) ρ) st Q ↔ wp (augT c t o e ρ) st fun ρ' s => Q (.nxt ρ') s := ws_aug
theorem z_aug {t : Tgt} {o : Op} {e : Ex} {Q : Flow → Store → Prop} : wq (execS c (.aug t o e) ρ) st Q ↔ wq (augT c t o e ρ) st fun ρ' s => Q (.nxt ρ') s := z_aug0
theorem z_expr0 {e : Ex} {Q : Flow → Store → Prop} : wp (execS c (.expr e) ρ) st Q ↔ wp (evalE c e ρ) st fun _ s => Q (.nxt ρ) s := ws_expr
theorem z_expr {e : Ex} {Q : Flow → Store → Prop} : wq (execS c (.expr e) ρ) st Q ↔ wq (evalE c e ρ) st fun _ s => Q (.nxt ρ) s := z_expr0
theorem z_ret0 {e : Ex} {Q : Flow → Store → Prop} : wp (execS c (.ret e) ρ) st Q ↔ wp (evalE c e ρ) st fun v s => Q (.ret v) s := ws_ret
theorem z_ret {e : Ex} {Q : Flow → Store → Prop} : wq (execS c (.ret e) ρ) st Q ↔ wq (evalE c e ρ) st fun v s => Q (.ret v) s := z_ret0
theorem z_retN0 {Q : Flow → Store → Prop} : wp (execS c .retN ρ) st Q ↔ Q (.ret .non) st := wp_pure
theorem z_retN {Q : Flow → Store → Prop} : wq (execS c .retN ρ) st Q ↔ Q (.ret .non) st := z_retN0
theorem z_ite0 {d : Ex} {a b : List Sm} {Q : Flow → Store → Prop} : wp (execS c (.ite d a b) ρ) st Q ↔ wp (evalE c d ρ) st fun v s => optB (truthy v s) fun t => cond2 t (wp (execB c a ρ) s Q) (wp (execB c b ρ) s Q) := ws_ite
theorem z_ite {d : Ex} {a b : List Sm} {Q : Flow → Store → Prop} : wq (execS c (.ite d a b) ρ) st Q ↔ wq (evalE c d ρ) st fun v s => optB (truthy v s) fun t => cond2 t (wq (execB c a ρ) s Q) (wq (execB c b ρ) s Q) := z_ite0
theorem z_for0 {t : Tg} {it : It} {b : List Sm} {Q : Flow → Store → Prop} : wp (execS c (.for_ t it b) ρ) st Q ↔ wp (evalI c it ρ) st fun w s => wp (forLoop w t (execB c b) w.items ρ) s Q := ws_for
theorem z_for {t : Tg} {it : It} {b : List Sm} {Q : Flow → Store → Prop} : wq (execS c (.for_ t it b) ρ) st Q ↔ wq (evalI c it ρ) st fun w s => wq (forLoop w t (execB c b) w.items ρ) s Q := z_for0
theorem z_pass0 {Q : Flow → Store → Prop} : wp (execS c .pass ρ) st Q ↔ Q (.nxt ρ) st := wp_pure
theorem z_pass {Q : Flow → Store → Prop} : wq (execS c .pass ρ) st Q ↔ Q (.nxt ρ) st := z_pass0
theorem z_brk0 {Q : Flow → Store → Prop} : wp (execS c .brk ρ) st Q ↔ Q (.brk ρ) st := wp_pure
theorem z_brk {Q : Flow → Store → Prop} : wq (execS c .brk ρ) st Q ↔ Q (.brk ρ) st := z_brk0
theorem z_cnt0 {Q : Flow → Store → Prop} : wp (execS c .cnt ρ) st Q ↔ Q (.cnt ρ) st := wp_pure
theorem z_cnt {Q : Flow → Store → Prop} : wq (execS c .cnt ρ) st Q ↔ Q (.cnt ρ) st := z_cnt0
theorem a_nm0 {i : Nat} {v : Val} {Q : Mn.Env → Store → Prop} : wp (assignT c (.nm i) v ρ) st Q ↔ Q (ρ.set i (some v)) st := wp_pure
theorem a_nm {i : Nat} {v : Val} {Q : Mn.Env → Store → Prop} : wq (assignT c (.nm i) v ρ) st Q ↔ Q (ρ.set i (some v)) st := a_nm0
theorem a_tup0 {ts : List Tgt} {v : Val} {Q : Mn.Env → Store → Prop} : wp (assignT c (.tup ts) v ρ) st Q ↔ optB (seqOf st v) fun xs => wp (assignTs c ts xs ρ) st Q := wa_tup
theorem a_tup {ts : List Tgt} {v : Val} {Q : Mn.Env → Store → Prop} : wq (assignT c (.tup ts) v ρ) st Q ↔ optB (seqOf st v) fun xs => wq (assignTs c ts xs ρ) st Q := a_tup0
theorem a_nil0 {Q : Mn.Env → Store → Prop} : wp (assignTs c [] [] ρ) st Q ↔ Q ρ st := wp_pure
theorem a_nil {Q : Mn.Env → Store → Prop} : wq (assignTs c [] [] ρ) st Q ↔ Q ρ st := a_nil0
theorem a_cons0 {t : Tgt} {ts : List Tgt} {v : Val} {vs : List Val} {Q : Mn.Env → Store → Prop} : wp (assignTs c (t :: ts) (v :: vs) ρ) st Q ↔ wp (assignT c t v ρ) st fun ρ' s => wp (assignTs c ts vs ρ') s Q := wa_cons
theorem a_cons {t : Tgt} {ts : List Tgt} {v : Val} {vs : List Val} {Q : Mn.Env → Store → Prop} : wq (assignTs c (t :: ts) (v :: vs) ρ) st Q ↔ wq (assignT c t v ρ) st fun ρ' s => wq (assignTs c ts vs ρ') s Q := a_cons0
theorem a_idx0 {o i : Ex} {v : Val} {Q : Mn.Env → Store → Prop} : wp (assignT c (.idx o i) v ρ) st Q ↔ wp (evalE c o ρ) st fun x s => wp (evalE c i ρ) s fun k s => wp (setIdx x k v) s fun _ s => Q ρ s := wa_idx
theorem a_idx {o i : Ex} {v : Val} {Q : Mn.Env → Store → Prop} : wq (assignT c (.idx o i) v ρ) st Q ↔ wq (evalE c o ρ) st fun x s => wq (evalE c i ρ) s fun k s => wq (setIdx x k v) s fun _ s => Q ρ s := a_idx0
theorem a_fld0 {o : Ex} {f : Str} {v : Val} {Q : Mn.Env → Store → Prop} : wp (assignT c (.fld o f) v ρ) st Q ↔ wp (evalE c o ρ) st fun x s => wp (setFld x f v) s fun _ s => Q ρ s := wa_fld
theorem a_fld {o : Ex} {f : Str} {v : Val} {Q : Mn.Env → Store → Prop} : wq (assignT c (.fld o f) v ρ) st Q ↔ wq (evalE c o ρ) st fun x s => wq (setFld x f v) s fun _ s => Q ρ s := a_fld0
theorem u_nm0 {i : Nat} {o : Op} {e : Ex} {Q : Mn.Env → Store → Prop} : wp (augT c (.nm i) o e ρ) st Q ↔ optB (getVar ρ i) fun x => wp (evalE c e ρ) st fun y s => wp (augVal o x y) s fun z s => Q (ρ.set i (some z)) s := wu_nm
theorem u_nm {i : Nat} {o : Op} {e : Ex} {Q : Mn.Env → Store → Prop} : wq (augT c (.nm i) o e ρ) st Q ↔ optB (getVar ρ i) fun x => wq (evalE c e ρ) st fun y s => wq (augVal o x y) s fun z s => Q (ρ.set i (some z)) s := u_nm0
theorem sq_tup {xs : List Val} : seqOf st (.tup xs) = some xs := (rfl)
theorem sq_ktup {xs : List Val} : seqOf st (.ktup xs) = some xs := (rfl)
theorem sq_lst {xs : List Val} : seqOf st (.lst xs) = some xs := (rfl)
theorem lo_lst {xs : List Val} : lstOf st (.lst xs) = some xs := (rfl)
/-! ### walks -/
theorem wq_tup {xs : List Val} {P : Walked → Prop} : optB (walkOf (.tup xs) st) P ↔ xs.length ≤ sizeLine ∧ P ⟨xs, none, false⟩ := by
  exact if_some
theorem wq_ktup {xs : List Val} {P : Walked → Prop} : optB (walkOf (.ktup xs) st) P ↔ xs.length ≤ sizeLine ∧ P ⟨xs, none, false⟩ := by
  exact if_some
theorem wq_lst {xs : List Val} {P : Walked → Prop} : optB (walkOf (.lst xs) st) P ↔ xs.length ≤ sizeLine ∧ P ⟨xs, none, false⟩ := by
  exact if_some
theorem wq_rng {j : Int} {P : Walked → Prop} : optB (rngWalk [.int j]) P ↔ (-(2 ^ 62) ≤ j ∧ j ≤ 16777216) ∧ P ⟨rngVals 0 j.toNat, none, false⟩ := by
  have hs := sizeLine_eq
  show optB ((if decide (-(2 ^ 62) ≤ j) && (decide (j < 2 ^ 62) && decide (j.toNat ≤ sizeLine)) then some ((0 : Int), j.toNat) else none).map (fun r => (⟨rngVals r.1 r.2, none, false⟩ : Walked))) P ↔ _
  by_cases h : (-(2 ^ 62) ≤ j ∧ j ≤ 16777216)
  · rw [if_pos (by simp; omega)]
    simp only [Option.map_some, ob_some, h, and_self, true_and]
  · rw [if_neg (by simp; omega)]
    constructor
    · rintro ⟨w, e, _⟩; cases e
    · rintro ⟨h1, _⟩; exact absurd h1 h
theorem wq_rng2 {i j : Int} {P : Walked → Prop} : optB (rngWalk [.int i, .int j]) P ↔ ((-(2 ^ 62) ≤ i ∧ i < 2 ^ 62) ∧ (-(2 ^ 62) ≤ j ∧ j < 2 ^ 62) ∧ j - i ≤ 16777216) ∧ P ⟨rngVals i (j - i).toNat, none, false⟩ := by
  have hs := sizeLine_eq
  show optB ((if decide (-(2 ^ 62) ≤ i) && (decide (i < 2 ^ 62) && (decide (-(2 ^ 62) ≤ j) && (decide (j < 2 ^ 62) && decide ((j - i).toNat ≤ sizeLine)))) then some (i, (j - i).toNat) else none).map (fun r => (⟨rngVals r.1 r.2, none, false⟩ : Walked))) P ↔ _
  by_cases h : ((-(2 ^ 62) ≤ i ∧ i < 2 ^ 62) ∧ (-(2 ^ 62) ≤ j ∧ j < 2 ^ 62) ∧ j - i ≤ 16777216)
  · rw [if_pos (by simp; omega)]
    simp only [Option.map_some, ob_some, h, and_self, true_and]
  · rw [if_neg (by simp; omega)]
    constructor
    · rintro ⟨w, e, _⟩; cases e
    · rintro ⟨h1, _⟩; exact absurd h1 h
theorem rv_zero {lo : Int} : rngVals lo 0 = [] := (rfl)
theorem rv_succ {lo : Int} {n : Nat} : rngVals lo (n + 1) = .int lo :: rngVals (lo + 1) n := by
  unfold rngVals
  rw [List.range_succ_eq_map, List.map_cons, List.map_map]
  congr 1
  · simp
  · refine List.map_congr_left fun i _ => ?_
    show Val.int (lo + ((i + 1 : Nat) : Int)) = Val.int (lo + 1 + (i : Nat))
    congr 1; omega
theorem wi_items {xs : List Val} {ce : Option Nat} {b : Bool} : (⟨xs, ce, b⟩ : Walked).items = xs := (rfl)
theorem wi_still {xs : List Val} {b : Bool} : (⟨xs, none, b⟩ : Walked).still st = true := (rfl)
/-- a for over what is known, turn by turn -/
def loopQ (w : Walked) (t : Tg) (body : Mn.Env → M Flow) (l : List Val) (Q : Flow → Store → Prop) [Wrap Q] : Flow → Store → Prop
  | .nxt ρ, s => wp (forLoop w t body l ρ) s Q
  | .cnt ρ, s => wp (forLoop w t body l ρ) s Q
  | .brk ρ, s => Q (.nxt ρ) s
  | .ret v, s => Q (.ret v) s
theorem lq_nxt0 {w : Walked} {t : Tg} {body : Mn.Env → M Flow} {l : List Val} {Q : Flow → Store → Prop} : loopQ w t body l Q (.nxt ρ) st ↔ wp (forLoop w t body l ρ) st Q := Iff.rfl
theorem lq_nxt {w : Walked} {t : Tg} {body : Mn.Env → M Flow} {l : List Val} {Q : Flow → Store → Prop} : loopQ w t body l Q (.nxt ρ) st ↔ wq (forLoop w t body l ρ) st Q := lq_nxt0
theorem lq_cnt0 {w : Walked} {t : Tg} {body : Mn.Env → M Flow} {l : List Val} {Q : Flow → Store → Prop} : loopQ w t body l Q (.cnt ρ) st ↔ wp (forLoop w t body l ρ) st Q := Iff.rfl
theorem lq_cnt {w : Walked} {t : Tg} {body : Mn.Env → M Flow} {l : List Val} {Q : Flow → Store → Prop} : loopQ w t body l Q (.cnt ρ) st ↔ wq (forLoop w t body l ρ) st Q := lq_cnt0
theorem lq_brk {w : Walked} {t : Tg} {body : Mn.Env → M Flow} {l : List Val} {Q : Flow → Store → Prop} : loopQ w t body l Q (.brk ρ) st ↔ Q (.nxt ρ) st := Iff.rfl
theorem lq_ret {w : Walked} {t : Tg} {body : Mn.Env → M Flow} {l : List Val} {Q : Flow → Store → Prop} {v : Val} : loopQ w t body l Q (.ret v) st ↔ Q (.ret v) st := Iff.rfl
theorem lf_nil0 {w : Walked} {t : Tg} {body : Mn.Env → M Flow} {Q : Flow → Store → Prop} : wp (forLoop w t body [] ρ) st Q ↔ w.still st = true ∧ Q (.nxt ρ) st := by
  rw [show forLoop w t body [] ρ = (do stillM w; pure (.nxt ρ)) from rfl]
  simp only [wp_bind, wp_still, wp_pure]
theorem lf_nil {w : Walked} {t : Tg} {body : Mn.Env → M Flow} {Q : Flow → Store → Prop} : wq (forLoop w t body [] ρ) st Q ↔ w.still st = true ∧ Q (.nxt ρ) st := lf_nil0
theorem lf_cons0 {w : Walked} {t : Tg} {body : Mn.Env → M Flow} {x : Val} {l : List Val} {Q : Flow → Store → Prop} : wp (forLoop w t body (x :: l) ρ) st Q ↔ w.still st = true ∧ optB (bindTg t x ρ) fun ρ' => wp (body ρ') st (loopQ w t body l Q) := by
  rw [show forLoop w t body (x :: l) ρ = (do stillM w; let ρ' ← lift (bindTg t x ρ); let f ← body ρ'; (match f with | .nxt ρ => forLoop w t body l ρ | .cnt ρ => forLoop w t body l ρ | .brk ρ => pure (.nxt ρ) | .ret v => pure (.ret v))) from rfl]
  simp only [wp_bind, wp_still, wp_lift]
  have e : ∀ (f : Flow) (s : Store), wp (match f with | .nxt ρ => forLoop w t body l ρ | .cnt ρ => forLoop w t body l ρ | .brk ρ => pure (.nxt ρ) | .ret v => pure (.ret v)) s Q ↔ loopQ w t body l Q f s := by
    intro f s
    cases f
    · exact Iff.rfl
    · exact wp_pure
    · exact wp_pure
    · exact Iff.rfl
  simp only [e]; exact Iff.rfl
theorem lf_cons {w : Walked} {t : Tg} {body : Mn.Env → M Flow} {x : Val} {l : List Val} {Q : Flow → Store → Prop} : wq (forLoop w t body (x :: l) ρ) st Q ↔ w.still st = true ∧ optB (bindTg t x ρ) fun ρ' => wq (body ρ') st (loopQ w t body l Q) := lf_cons0
theorem cl_nil0 {w : Walked} {t : Tg} {ts : Mn.Env → M Bool} {body : Mn.Env → M (List Val)} {Q : List Val → Store → Prop} : wp (compLoop w t ρ ts body []) st Q ↔ w.still st = true ∧ Q [] st := by
  rw [show compLoop w t ρ ts body [] = (do stillM w; pure []) from rfl]
  simp only [wp_bind, wp_still, wp_pure]
theorem cl_nil {w : Walked} {t : Tg} {ts : Mn.Env → M Bool} {body : Mn.Env → M (List Val)} {Q : List Val → Store → Prop} : wq (compLoop w t ρ ts body []) st Q ↔ w.still st = true ∧ Q [] st := cl_nil0
theorem cl_cons0 {w : Walked} {t : Tg} {ts : Mn.Env → M Bool} {body : Mn.Env → M (List Val)} {x : Val} {l : List Val} {Q : List Val → Store → Prop} : wp (compLoop w t ρ ts body (x :: l)) st Q ↔ w.still st = true ∧ optB (bindTg t x ρ) fun ρ' =>
    wp (ts ρ') st fun b s => cond2 b (wp (body ρ') s fun ys s => wp (compLoop w t ρ ts body l) s fun zs s => Q (ys ++ zs) s) (wp (compLoop w t ρ ts body l) s Q) := by
  rw [show compLoop w t ρ ts body (x :: l) = (do stillM w; let ρ' ← lift (bindTg t x ρ); let b ← ts ρ'; (match b with | true => do { let ys ← body ρ'; let zs ← compLoop w t ρ ts body l; pure (ys ++ zs) } | false => compLoop w t ρ ts body l)) from rfl]
  simp only [wp_bind, wp_still, wp_lift]
  have e : ∀ (ρ' : Mn.Env) (b : Bool) (s : Store), wp (match b with | true => (do { let ys ← body ρ'; let zs ← compLoop w t ρ ts body l; pure (ys ++ zs) } : M (List Val)) | false => compLoop w t ρ ts body l) s Q ↔ cond2 b (wp (body ρ') s fun ys s => wp (compLoop w t ρ ts body l) s fun zs s => Q (ys ++ zs) s) (wp (compLoop w t ρ ts body l) s Q) := by
    intro ρ' b s
    cases b <;> simp [wp_bind, wp_pure, cond2]
  simp only [e]; exact Iff.rfl
theorem cl_cons {w : Walked} {t : Tg} {ts : Mn.Env → M Bool} {body : Mn.Env → M (List Val)} {x : Val} {l : List Val} {Q : List Val → Store → Prop} : wq (compLoop w t ρ ts body (x :: l)) st Q ↔ w.still st = true ∧ optB (bindTg t x ρ) fun ρ' =>
    wq (ts ρ') st fun b s => cond2 b (wq (body ρ') s fun ys s => wq (compLoop w t ρ ts body l) s fun zs s => Q (ys ++ zs) s) (wq (compLoop w t ρ ts body l) s Q) := cl_cons0
theorem bnd0 {α β : Type} {m : M α} {f : α → M β} {Q : β → Store → Prop} : wp (m >>= f) st Q ↔ wp m st fun a s => wp (f a) s Q := wp_bind
theorem bnd {α β : Type} {m : M α} {f : α → M β} {Q : β → Store → Prop} : wq (m >>= f) st Q ↔ wq m st fun a s => wq (f a) s Q := bnd0
theorem pur0 {α : Type} {a : α} {Q : α → Store → Prop} : wp (pure a : M α) st Q ↔ Q a st := wp_pure
theorem pur {α : Type} {a : α} {Q : α → Store → Prop} : wq (pure a : M α) st Q ↔ Q a st := pur0
theorem ap_nil {α : Type} {xs : List α} : ([] : List α) ++ xs = xs := (rfl)
theorem ap_cons {α : Type} {x : α} {xs ys : List α} : (x :: xs) ++ ys = x :: (xs ++ ys) := (rfl)
/-! ### calls -/
def envOf (n : Nat) (vs : List Val) : Mn.Env := vs.map some ++ List.replicate (n - vs.length) none
theorem ev_nil0 : envOf 0 [] = [] := (rfl)
theorem ev_nil {n : Nat} : envOf (n + 1) [] = none :: envOf n [] := by simp [envOf, List.replicate_succ]
theorem ev_cons {n : Nat} {v : Val} {vs : List Val} : envOf (n + 1) (v :: vs) = some v :: envOf n vs := by simp [envOf]
section
variable {D : Defs} {G : Str → Option Val} {n : Nat}
theorem k_call {f : Str} {vs : List Val} : (cf D G n).call f vs = callFn D G n (Str.ofString "") f vs := (rfl)
theorem k_glob {x : Str} : (cf D G n).glob x = G x := (rfl)
theorem e_glo0 {x : Str} {Q : Val → Store → Prop} : wp (evalE (cf D G n) (.glo x) ρ) st Q ↔ optB (G x) fun v => Q v st := wp_glo
theorem e_glo {x : Str} {Q : Val → Store → Prop} : wq (evalE (cf D G n) (.glo x) ρ) st Q ↔ optB (G x) fun v => Q v st := e_glo0
theorem frz_old {k d : Nat} {v : Val} (h : old k v = true) : frz k st d v = some v := by
  cases d <;> (unfold frz; rw [if_pos h])
/-- how a def over no cell ends -/
def fin0 (Q : Val → Prop) : Flow → Store → Prop
  | .nxt _, _ => Q .non
  | .ret v, s => ∃ u, frz 0 s 20 v = some u ∧ Q u
  | _, _ => False
theorem f_nxt {Q : Val → Prop} : fin0 Q (.nxt ρ) st ↔ Q .non := Iff.rfl
theorem f_ret {Q : Val → Prop} {v : Val} : fin0 Q (.ret v) st ↔ ∃ u, frz 0 st 20 v = some u ∧ Q u := Iff.rfl
theorem f_retc {Q : Val → Prop} {v : Val} (h : old 0 v = true) : fin0 Q (.ret v) st ↔ Q v := by
  rw [f_ret, frz_old h, ex_some]
theorem leave0 {v : Val} {Q : Val → Store → Prop} : wp (leave 0 v) st Q ↔ ∃ u, frz 0 st 20 v = some u ∧ Q u [] := by
  have e : leave 0 v st = match frz 0 st 20 v with
    | some v' => .ok v' []
    | none => .bad := by
    unfold leave
    rw [List.take_zero]
    cases frz 0 st 20 v <;> rfl
  unfold wp
  rw [e]
  cases q2 : frz 0 st 20 v with
  | none => simp
  | some u =>
    constructor
    · rintro ⟨a, s, h, q⟩; cases h; exact ⟨u, rfl, q⟩
    · rintro ⟨u', h, q⟩; cases h; exact ⟨u, [], rfl, q⟩
/-- a def over no cell, called -/
theorem run_of {F : Fn} {f : Str} {vs : List Val} {v : Val} (hF : findFn D (Str.ofString "") f = some F) (hl : vs.length = F.np) (hd : F.drop = true) (h : wq (execB (cf D G n) F.body (startEnv F.n vs)) [] (fin0 fun r => r = v)) : callFn D G (n + 1) (Str.ofString "") f vs [] = .ok v [] := by
  have := wp_fn (n := n) (D := D) (G := G) (C := Str.ofString "") (f := f) (vs := vs) (st := []) (Q := fun r s => r = v ∧ s = []) hF hl (wp_mono h fun fl s q => by
    cases fl with
    | nxt ρ =>
      show wp (if F.drop then leave 0 .non else pure .non) s _
      rw [if_pos hd, leave0]
      exact ⟨.non, rfl, q, rfl⟩
    | ret u =>
      show wp (if F.drop then leave 0 u else pure u) s _
      rw [if_pos hd, leave0]
      obtain ⟨w, h1, h2⟩ := q
      exact ⟨w, h1, h2, rfl⟩
    | brk ρ => exact q
    | cnt ρ => exact q)
  obtain ⟨a, s, e, rfl, rfl⟩ := this
  exact e
theorem se {n : Nat} {vs : List Val} : startEnv n vs = envOf n vs := (rfl)
/-- .. from any store -/
theorem run_wp (cl : Clo D G) {n' : Nat} {f : Str} {vs : List Val} {v : Val} {Q : Val → Store → Prop} (e : callFn D G n (Str.ofString "") f vs [] = .ok v []) (hn : n ≤ n') (hv : oldL 0 vs = true) (h0 : old 0 v = true) (hw : Wf st) : wq (callFn D G n' (Str.ofString "") f vs) st Q ↔ Q v st := by
  have := callFn_more cl hn hv h0 e hw
  unfold wq wp
  rw [this]
  constructor
  · rintro ⟨a, s, h, q⟩; cases h; exact q
  · intro q; exact ⟨v, st, rfl, q⟩
end
/-- a def over no cell, as a rewriting rule -/
theorem pure_wp {D : Defs} {G : Str → Option Val} (cl : Clo D G) {k n : Nat} {F : Fn} {f : Str} {vs : List Val} {v : Val} {Q : Val → Store → Prop} (hF : findFn D (Str.ofString "") f = some F) (hl : vs.length = F.np) (hd : F.drop = true) (hv : oldL 0 vs = true) (h0 : old 0 v = true) (hn : k + 1 ≤ n) (hw : Wf st)
    (h : wq (execB (cf D G k) F.body (startEnv F.n vs)) [] (fin0 fun r => r = v)) : wq (callFn D G n (Str.ofString "") f vs) st Q ↔ Q v st :=
  run_wp cl (run_of hF hl hd h) hn hv h0 hw
theorem wf_nil : Wf [] := (rfl)
theorem oi {i : Int} : old k (.int i) = true := (rfl)
theorem ob {i : Bool} : old k (.bl i) = true := (rfl)
theorem os {i : Str} : old k (.str i) = true := (rfl)
theorem on : old k .non = true := (rfl)
theorem ot {xs : List Val} : old k (.tup xs) = oldL k xs := by rw [old]
theorem ol {xs : List Val} : old k (.lst xs) = oldL k xs := by rw [old]
theorem okt {xs : List Val} : old k (.ktup xs) = oldL k xs := by rw [old]
theorem okl {xs : List Val} : old k (.klst xs) = oldL k xs := by rw [old]
theorem oL0 : oldL k [] = true := (rfl)
theorem oL1 {x : Val} {xs : List Val} : oldL k (x :: xs) = (old k x && oldL k xs) := (rfl)
theorem oLi {xs : List Int} : oldL k (xs.map .int) = true := oldL_ints
theorem old_ite {p : Prop} [Decidable p] {a b : Val} : old k (if p then a else b) = if p then old k a else old k b := by split <;> rfl
theorem ite_same {α : Type} {p : Prop} [Decidable p] {a : α} : (if p then a else a) = a := by split <;> rfl
theorem oldL_app {xs ys : List Val} : oldL k (xs ++ ys) = (oldL k xs && oldL k ys) := by
  induction xs with
  | nil => simp [oldL]
  | cons x xs ih => rw [List.cons_append, oldL, oldL, ih, Bool.and_assoc]
theorem oldL_all {xs : List Val} : oldL k xs = true ↔ ∀ x ∈ xs, old k x = true := by
  induction xs with
  | nil => simp [oldL]
  | cons x xs ih => simp [oldL, ih]
/-! ### a value beside itself -/
mutual
/-- data at most n deep -/
def dd : Nat → Val → Bool
  | _, .non => true
  | _, .bl _ => true
  | _, .int _ => true
  | _, .str x => PyData.strOk x
  | 0, _ => false
  | n + 1, .tup xs => ddL n xs
  | n + 1, .lst xs => ddL n xs
  | n + 1, .ktup xs => ddL n xs
  | n + 1, .klst xs => ddL n xs
  | _, _ => false
def ddL : Nat → List Val → Bool
  | _, [] => true
  | n, x :: xs => dd n x && ddL n xs
end
mutual
theorem dd_py : ∀ (n : Nat) (v : Val), dd n v = true → ∃ d, toPy v = some d ∧ d.canLay0 = true ∧ d.depth ≤ n ∧ PyData.eqv d d = true
  | n, .non, _ => ⟨.none, rfl, rfl, Nat.zero_le _, rfl⟩
  | n, .bl b, _ => ⟨.bool b, rfl, rfl, Nat.zero_le _, by show (b == b) = true; simp⟩
  | n, .int b, _ => ⟨.int b, rfl, rfl, Nat.zero_le _, by show (b == b) = true; simp⟩
  | n, .str x, h => ⟨.str x, rfl, by cases n <;> exact h, Nat.zero_le _, by show (x == x) = true; simp⟩
  | 0, .tup xs, h => by unfold dd at h; cases h
  | 0, .lst xs, h => by unfold dd at h; cases h
  | 0, .ktup xs, h => by unfold dd at h; cases h
  | 0, .klst xs, h => by unfold dd at h; cases h
  | n + 1, .tup xs, h => by
    unfold dd at h
    obtain ⟨ds, h1, h2, h3, h4⟩ := ddL_py n xs h
    refine ⟨.tuple ds, by unfold toPy; rw [h1]; rfl, by unfold PyData.canLay0; exact h2, ?_, by unfold PyData.eqv; exact h4⟩
    show PyData.depthAll ds + 1 ≤ n + 1
    omega
  | n + 1, .lst xs, h => by
    unfold dd at h
    obtain ⟨ds, h1, h2, h3, h4⟩ := ddL_py n xs h
    refine ⟨.list ds, by unfold toPy; rw [h1]; rfl, by unfold PyData.canLay0; exact h2, ?_, by unfold PyData.eqv; exact h4⟩
    show PyData.depthAll ds + 1 ≤ n + 1
    omega
  | n + 1, .ktup xs, h => by
    unfold dd at h
    obtain ⟨ds, h1, h2, h3, h4⟩ := ddL_py n xs h
    refine ⟨.tuple ds, by unfold toPy; rw [h1]; rfl, by unfold PyData.canLay0; exact h2, ?_, by unfold PyData.eqv; exact h4⟩
    show PyData.depthAll ds + 1 ≤ n + 1
    omega
  | n + 1, .klst xs, h => by
    unfold dd at h
    obtain ⟨ds, h1, h2, h3, h4⟩ := ddL_py n xs h
    refine ⟨.list ds, by unfold toPy; rw [h1]; rfl, by unfold PyData.canLay0; exact h2, ?_, by unfold PyData.eqv; exact h4⟩
    show PyData.depthAll ds + 1 ≤ n + 1
    omega
  | n, .dct _, h => by cases n <;> (unfold dd at h; cases h)
  | n, .kdct _, h => by cases n <;> (unfold dd at h; cases h)
  | n, .ref _, h => by cases n <;> (unfold dd at h; cases h)
  | n, .fn _, h => by cases n <;> (unfold dd at h; cases h)
theorem ddL_py : ∀ (n : Nat) (v : List Val), ddL n v = true → ∃ d, toPyL v = some d ∧ PyData.canLayAll0 d = true ∧ PyData.depthAll d ≤ n ∧ PyData.eqvAll d d = true
  | n, [], _ => ⟨[], rfl, rfl, Nat.zero_le _, rfl⟩
  | n, x :: xs, h => by
    unfold ddL at h
    rw [Bool.and_eq_true] at h
    obtain ⟨d, h1, h2, h3, h4⟩ := dd_py n x h.1
    obtain ⟨ds, k1, k2, k3, k4⟩ := ddL_py n xs h.2
    refine ⟨d :: ds, by unfold toPyL; rw [h1]; dsimp only; rw [k1], ?_, ?_, ?_⟩
    · unfold PyData.canLayAll0; rw [h2, k2]; rfl
    · unfold PyData.depthAll; omega
    · unfold PyData.eqvAll; rw [h4, k4]; rfl
end
theorem deref_dd {n : Nat} {v : Val} (h : dd n v = true) : deref st v = v := by
  cases v <;> first | rfl | (cases n <;> (unfold dd at h; cases h))
theorem eq_self' {v : Val} (h : dd 64 v = true) : eqVal v v st = some true := by
  obtain ⟨d, h1, h2, h3, h4⟩ := dd_py 64 v h
  have hs : SeqAt.shaped d = true := by unfold SeqAt.shaped; rw [h2, decide_eq_true h3]; rfl
  unfold eqVal
  rw [deref_dd h, h1]
  dsimp only
  rw [hs, h4]; rfl
theorem q_eq_self {v : Val} (h : dd 64 v = true) : cmpVal .eq v v st = some true := eq_self' h
theorem q_ne_self {v : Val} (h : dd 64 v = true) : cmpVal .ne v v st = some false := by
  show (eqVal v v st).map (!·) = _
  rw [eq_self' h]; rfl
theorem shaped_of {d : List PyData} (h2 : PyData.canLayAll0 d = true) (h3 : PyData.depthAll d ≤ 63) {f : List PyData → PyData} (hf : f = .tuple ∨ f = .list := by first | exact .inl rfl | exact .inr rfl) : SeqAt.shaped (f d) = true := by
  rcases hf with rfl | rfl
  · unfold SeqAt.shaped PyData.canLay0
    rw [h2, Bool.true_and]; exact decide_eq_true (show PyData.depthAll d + 1 ≤ 64 by omega)
  · unfold SeqAt.shaped PyData.canLay0
    rw [h2, Bool.true_and]; exact decide_eq_true (show PyData.depthAll d + 1 ≤ 64 by omega)
theorem qk_non_bl {b : Bool} : cmpVal .eq .non (.bl b) st = some false := by
  show eqVal .non (.bl b) st = _
  rw [eq_kind (d := .none) (e := (.bool b)) (by rfl) (by rfl) (by rfl) (by rfl)]; rfl
theorem qkn_non_bl {b : Bool} : cmpVal .ne .non (.bl b) st = some true := by
  show (eqVal .non (.bl b) st).map (!·) = _
  rw [show eqVal .non (.bl b) st = cmpVal .eq .non (.bl b) st from rfl, qk_non_bl]; rfl
theorem qk_non_int {i : Int} : cmpVal .eq .non (.int i) st = some false := by
  show eqVal .non (.int i) st = _
  rw [eq_kind (d := .none) (e := (.int i)) (by rfl) (by rfl) (by rfl) (by rfl)]; rfl
theorem qkn_non_int {i : Int} : cmpVal .ne .non (.int i) st = some true := by
  show (eqVal .non (.int i) st).map (!·) = _
  rw [show eqVal .non (.int i) st = cmpVal .eq .non (.int i) st from rfl, qk_non_int]; rfl
theorem qk_non_str {s : String} : cmpVal .eq .non (.str (Str.ofString s)) st = some false := by
  show eqVal .non (.str (Str.ofString s)) st = _
  rw [eq_kind (d := .none) (e := (.str (Str.ofString s))) (by rfl) (by rfl) (by rfl) (by unfold SeqAt.shaped PyData.canLay0; rw [strOk_of]; rfl)]; rfl
theorem qkn_non_str {s : String} : cmpVal .ne .non (.str (Str.ofString s)) st = some true := by
  show (eqVal .non (.str (Str.ofString s)) st).map (!·) = _
  rw [show eqVal .non (.str (Str.ofString s)) st = cmpVal .eq .non (.str (Str.ofString s)) st from rfl, qk_non_str]; rfl
theorem qk_bl_non {b : Bool} : cmpVal .eq (.bl b) .non st = some false := by
  show eqVal (.bl b) .non st = _
  rw [eq_kind (d := (.bool b)) (e := .none) (by rfl) (by rfl) (by rfl) (by rfl)]; rfl
theorem qkn_bl_non {b : Bool} : cmpVal .ne (.bl b) .non st = some true := by
  show (eqVal (.bl b) .non st).map (!·) = _
  rw [show eqVal (.bl b) .non st = cmpVal .eq (.bl b) .non st from rfl, qk_bl_non]; rfl
theorem qk_bl_str {b : Bool} {s : String} : cmpVal .eq (.bl b) (.str (Str.ofString s)) st = some false := by
  show eqVal (.bl b) (.str (Str.ofString s)) st = _
  rw [eq_kind (d := (.bool b)) (e := (.str (Str.ofString s))) (by rfl) (by rfl) (by rfl) (by unfold SeqAt.shaped PyData.canLay0; rw [strOk_of]; rfl)]; rfl
theorem qkn_bl_str {b : Bool} {s : String} : cmpVal .ne (.bl b) (.str (Str.ofString s)) st = some true := by
  show (eqVal (.bl b) (.str (Str.ofString s)) st).map (!·) = _
  rw [show eqVal (.bl b) (.str (Str.ofString s)) st = cmpVal .eq (.bl b) (.str (Str.ofString s)) st from rfl, qk_bl_str]; rfl
theorem qk_int_non {i : Int} : cmpVal .eq (.int i) .non st = some false := by
  show eqVal (.int i) .non st = _
  rw [eq_kind (d := (.int i)) (e := .none) (by rfl) (by rfl) (by rfl) (by rfl)]; rfl
theorem qkn_int_non {i : Int} : cmpVal .ne (.int i) .non st = some true := by
  show (eqVal (.int i) .non st).map (!·) = _
  rw [show eqVal (.int i) .non st = cmpVal .eq (.int i) .non st from rfl, qk_int_non]; rfl
theorem qk_int_str {i : Int} {s : String} : cmpVal .eq (.int i) (.str (Str.ofString s)) st = some false := by
  show eqVal (.int i) (.str (Str.ofString s)) st = _
  rw [eq_kind (d := (.int i)) (e := (.str (Str.ofString s))) (by rfl) (by rfl) (by rfl) (by unfold SeqAt.shaped PyData.canLay0; rw [strOk_of]; rfl)]; rfl
theorem qkn_int_str {i : Int} {s : String} : cmpVal .ne (.int i) (.str (Str.ofString s)) st = some true := by
  show (eqVal (.int i) (.str (Str.ofString s)) st).map (!·) = _
  rw [show eqVal (.int i) (.str (Str.ofString s)) st = cmpVal .eq (.int i) (.str (Str.ofString s)) st from rfl, qk_int_str]; rfl
theorem qk_str_non {s : String} : cmpVal .eq (.str (Str.ofString s)) .non st = some false := by
  show eqVal (.str (Str.ofString s)) .non st = _
  rw [eq_kind (d := (.str (Str.ofString s))) (e := .none) (by rfl) (by rfl) (by unfold SeqAt.shaped PyData.canLay0; rw [strOk_of]; rfl) (by rfl)]; rfl
theorem qkn_str_non {s : String} : cmpVal .ne (.str (Str.ofString s)) .non st = some true := by
  show (eqVal (.str (Str.ofString s)) .non st).map (!·) = _
  rw [show eqVal (.str (Str.ofString s)) .non st = cmpVal .eq (.str (Str.ofString s)) .non st from rfl, qk_str_non]; rfl
theorem qk_str_bl {s : String} {b : Bool} : cmpVal .eq (.str (Str.ofString s)) (.bl b) st = some false := by
  show eqVal (.str (Str.ofString s)) (.bl b) st = _
  rw [eq_kind (d := (.str (Str.ofString s))) (e := (.bool b)) (by rfl) (by rfl) (by unfold SeqAt.shaped PyData.canLay0; rw [strOk_of]; rfl) (by rfl)]; rfl
theorem qkn_str_bl {s : String} {b : Bool} : cmpVal .ne (.str (Str.ofString s)) (.bl b) st = some true := by
  show (eqVal (.str (Str.ofString s)) (.bl b) st).map (!·) = _
  rw [show eqVal (.str (Str.ofString s)) (.bl b) st = cmpVal .eq (.str (Str.ofString s)) (.bl b) st from rfl, qk_str_bl]; rfl
theorem qk_str_int {s : String} {i : Int} : cmpVal .eq (.str (Str.ofString s)) (.int i) st = some false := by
  show eqVal (.str (Str.ofString s)) (.int i) st = _
  rw [eq_kind (d := (.str (Str.ofString s))) (e := (.int i)) (by rfl) (by rfl) (by unfold SeqAt.shaped PyData.canLay0; rw [strOk_of]; rfl) (by rfl)]; rfl
theorem qkn_str_int {s : String} {i : Int} : cmpVal .ne (.str (Str.ofString s)) (.int i) st = some true := by
  show (eqVal (.str (Str.ofString s)) (.int i) st).map (!·) = _
  rw [show eqVal (.str (Str.ofString s)) (.int i) st = cmpVal .eq (.str (Str.ofString s)) (.int i) st from rfl, qk_str_int]; rfl
theorem qk_tup_non {xs : List Val} (h : ddL 63 xs = true) : cmpVal .eq (.tup xs) .non st = some false := by
  obtain ⟨d, h1, h2, h3, h4⟩ := ddL_py 63 xs h
  show eqVal (.tup xs) .non st = _
  rw [eq_kind (d := .tuple d) (e := .none) (by show toPy (.tup xs) = _; unfold toPy; rw [h1]; rfl) (by rfl) (shaped_of h2 h3) (by rfl)]; rfl
theorem qkn_tup_non {xs : List Val} (h : ddL 63 xs = true) : cmpVal .ne (.tup xs) .non st = some true := by
  show (eqVal (.tup xs) .non st).map (!·) = _
  rw [show eqVal (.tup xs) .non st = cmpVal .eq (.tup xs) .non st from rfl, qk_tup_non h]; rfl
theorem qk_non_tup {xs : List Val} (h : ddL 63 xs = true) : cmpVal .eq .non (.tup xs) st = some false := by
  obtain ⟨d, h1, h2, h3, h4⟩ := ddL_py 63 xs h
  show eqVal .non (.tup xs) st = _
  rw [eq_kind (d := .none) (e := .tuple d) (by rfl) (by show toPy (.tup xs) = _; unfold toPy; rw [h1]; rfl) (by rfl) (shaped_of h2 h3)]; rfl
theorem qkn_non_tup {xs : List Val} (h : ddL 63 xs = true) : cmpVal .ne .non (.tup xs) st = some true := by
  show (eqVal .non (.tup xs) st).map (!·) = _
  rw [show eqVal .non (.tup xs) st = cmpVal .eq .non (.tup xs) st from rfl, qk_non_tup h]; rfl
theorem qk_tup_bl {b : Bool} {xs : List Val} (h : ddL 63 xs = true) : cmpVal .eq (.tup xs) (.bl b) st = some false := by
  obtain ⟨d, h1, h2, h3, h4⟩ := ddL_py 63 xs h
  show eqVal (.tup xs) (.bl b) st = _
  rw [eq_kind (d := .tuple d) (e := (.bool b)) (by show toPy (.tup xs) = _; unfold toPy; rw [h1]; rfl) (by rfl) (shaped_of h2 h3) (by rfl)]; rfl
theorem qkn_tup_bl {b : Bool} {xs : List Val} (h : ddL 63 xs = true) : cmpVal .ne (.tup xs) (.bl b) st = some true := by
  show (eqVal (.tup xs) (.bl b) st).map (!·) = _
  rw [show eqVal (.tup xs) (.bl b) st = cmpVal .eq (.tup xs) (.bl b) st from rfl, qk_tup_bl h]; rfl
theorem qk_bl_tup {b : Bool} {xs : List Val} (h : ddL 63 xs = true) : cmpVal .eq (.bl b) (.tup xs) st = some false := by
  obtain ⟨d, h1, h2, h3, h4⟩ := ddL_py 63 xs h
  show eqVal (.bl b) (.tup xs) st = _
  rw [eq_kind (d := (.bool b)) (e := .tuple d) (by rfl) (by show toPy (.tup xs) = _; unfold toPy; rw [h1]; rfl) (by rfl) (shaped_of h2 h3)]; rfl
theorem qkn_bl_tup {b : Bool} {xs : List Val} (h : ddL 63 xs = true) : cmpVal .ne (.bl b) (.tup xs) st = some true := by
  show (eqVal (.bl b) (.tup xs) st).map (!·) = _
  rw [show eqVal (.bl b) (.tup xs) st = cmpVal .eq (.bl b) (.tup xs) st from rfl, qk_bl_tup h]; rfl
theorem qk_tup_int {i : Int} {xs : List Val} (h : ddL 63 xs = true) : cmpVal .eq (.tup xs) (.int i) st = some false := by
  obtain ⟨d, h1, h2, h3, h4⟩ := ddL_py 63 xs h
  show eqVal (.tup xs) (.int i) st = _
  rw [eq_kind (d := .tuple d) (e := (.int i)) (by show toPy (.tup xs) = _; unfold toPy; rw [h1]; rfl) (by rfl) (shaped_of h2 h3) (by rfl)]; rfl
theorem qkn_tup_int {i : Int} {xs : List Val} (h : ddL 63 xs = true) : cmpVal .ne (.tup xs) (.int i) st = some true := by
  show (eqVal (.tup xs) (.int i) st).map (!·) = _
  rw [show eqVal (.tup xs) (.int i) st = cmpVal .eq (.tup xs) (.int i) st from rfl, qk_tup_int h]; rfl
theorem qk_int_tup {i : Int} {xs : List Val} (h : ddL 63 xs = true) : cmpVal .eq (.int i) (.tup xs) st = some false := by
  obtain ⟨d, h1, h2, h3, h4⟩ := ddL_py 63 xs h
  show eqVal (.int i) (.tup xs) st = _
  rw [eq_kind (d := (.int i)) (e := .tuple d) (by rfl) (by show toPy (.tup xs) = _; unfold toPy; rw [h1]; rfl) (by rfl) (shaped_of h2 h3)]; rfl
theorem qkn_int_tup {i : Int} {xs : List Val} (h : ddL 63 xs = true) : cmpVal .ne (.int i) (.tup xs) st = some true := by
  show (eqVal (.int i) (.tup xs) st).map (!·) = _
  rw [show eqVal (.int i) (.tup xs) st = cmpVal .eq (.int i) (.tup xs) st from rfl, qk_int_tup h]; rfl
theorem qk_tup_str {s : String} {xs : List Val} (h : ddL 63 xs = true) : cmpVal .eq (.tup xs) (.str (Str.ofString s)) st = some false := by
  obtain ⟨d, h1, h2, h3, h4⟩ := ddL_py 63 xs h
  show eqVal (.tup xs) (.str (Str.ofString s)) st = _
  rw [eq_kind (d := .tuple d) (e := (.str (Str.ofString s))) (by show toPy (.tup xs) = _; unfold toPy; rw [h1]; rfl) (by rfl) (shaped_of h2 h3) (by unfold SeqAt.shaped PyData.canLay0; rw [strOk_of]; rfl)]; rfl
theorem qkn_tup_str {s : String} {xs : List Val} (h : ddL 63 xs = true) : cmpVal .ne (.tup xs) (.str (Str.ofString s)) st = some true := by
  show (eqVal (.tup xs) (.str (Str.ofString s)) st).map (!·) = _
  rw [show eqVal (.tup xs) (.str (Str.ofString s)) st = cmpVal .eq (.tup xs) (.str (Str.ofString s)) st from rfl, qk_tup_str h]; rfl
theorem qk_str_tup {s : String} {xs : List Val} (h : ddL 63 xs = true) : cmpVal .eq (.str (Str.ofString s)) (.tup xs) st = some false := by
  obtain ⟨d, h1, h2, h3, h4⟩ := ddL_py 63 xs h
  show eqVal (.str (Str.ofString s)) (.tup xs) st = _
  rw [eq_kind (d := (.str (Str.ofString s))) (e := .tuple d) (by rfl) (by show toPy (.tup xs) = _; unfold toPy; rw [h1]; rfl) (by unfold SeqAt.shaped PyData.canLay0; rw [strOk_of]; rfl) (shaped_of h2 h3)]; rfl
theorem qkn_str_tup {s : String} {xs : List Val} (h : ddL 63 xs = true) : cmpVal .ne (.str (Str.ofString s)) (.tup xs) st = some true := by
  show (eqVal (.str (Str.ofString s)) (.tup xs) st).map (!·) = _
  rw [show eqVal (.str (Str.ofString s)) (.tup xs) st = cmpVal .eq (.str (Str.ofString s)) (.tup xs) st from rfl, qk_str_tup h]; rfl
theorem qk_lst_non {xs : List Val} (h : ddL 63 xs = true) : cmpVal .eq (.lst xs) .non st = some false := by
  obtain ⟨d, h1, h2, h3, h4⟩ := ddL_py 63 xs h
  show eqVal (.lst xs) .non st = _
  rw [eq_kind (d := .list d) (e := .none) (by show toPy (.lst xs) = _; unfold toPy; rw [h1]; rfl) (by rfl) (shaped_of h2 h3) (by rfl)]; rfl
theorem qkn_lst_non {xs : List Val} (h : ddL 63 xs = true) : cmpVal .ne (.lst xs) .non st = some true := by
  show (eqVal (.lst xs) .non st).map (!·) = _
  rw [show eqVal (.lst xs) .non st = cmpVal .eq (.lst xs) .non st from rfl, qk_lst_non h]; rfl
theorem qk_non_lst {xs : List Val} (h : ddL 63 xs = true) : cmpVal .eq .non (.lst xs) st = some false := by
  obtain ⟨d, h1, h2, h3, h4⟩ := ddL_py 63 xs h
  show eqVal .non (.lst xs) st = _
  rw [eq_kind (d := .none) (e := .list d) (by rfl) (by show toPy (.lst xs) = _; unfold toPy; rw [h1]; rfl) (by rfl) (shaped_of h2 h3)]; rfl
theorem qkn_non_lst {xs : List Val} (h : ddL 63 xs = true) : cmpVal .ne .non (.lst xs) st = some true := by
  show (eqVal .non (.lst xs) st).map (!·) = _
  rw [show eqVal .non (.lst xs) st = cmpVal .eq .non (.lst xs) st from rfl, qk_non_lst h]; rfl
theorem qk_lst_bl {b : Bool} {xs : List Val} (h : ddL 63 xs = true) : cmpVal .eq (.lst xs) (.bl b) st = some false := by
  obtain ⟨d, h1, h2, h3, h4⟩ := ddL_py 63 xs h
  show eqVal (.lst xs) (.bl b) st = _
  rw [eq_kind (d := .list d) (e := (.bool b)) (by show toPy (.lst xs) = _; unfold toPy; rw [h1]; rfl) (by rfl) (shaped_of h2 h3) (by rfl)]; rfl
theorem qkn_lst_bl {b : Bool} {xs : List Val} (h : ddL 63 xs = true) : cmpVal .ne (.lst xs) (.bl b) st = some true := by
  show (eqVal (.lst xs) (.bl b) st).map (!·) = _
  rw [show eqVal (.lst xs) (.bl b) st = cmpVal .eq (.lst xs) (.bl b) st from rfl, qk_lst_bl h]; rfl
theorem qk_bl_lst {b : Bool} {xs : List Val} (h : ddL 63 xs = true) : cmpVal .eq (.bl b) (.lst xs) st = some false := by
  obtain ⟨d, h1, h2, h3, h4⟩ := ddL_py 63 xs h
  show eqVal (.bl b) (.lst xs) st = _
  rw [eq_kind (d := (.bool b)) (e := .list d) (by rfl) (by show toPy (.lst xs) = _; unfold toPy; rw [h1]; rfl) (by rfl) (shaped_of h2 h3)]; rfl
theorem qkn_bl_lst {b : Bool} {xs : List Val} (h : ddL 63 xs = true) : cmpVal .ne (.bl b) (.lst xs) st = some true := by
  show (eqVal (.bl b) (.lst xs) st).map (!·) = _
  rw [show eqVal (.bl b) (.lst xs) st = cmpVal .eq (.bl b) (.lst xs) st from rfl, qk_bl_lst h]; rfl
theorem qk_lst_int {i : Int} {xs : List Val} (h : ddL 63 xs = true) : cmpVal .eq (.lst xs) (.int i) st = some false := by
  obtain ⟨d, h1, h2, h3, h4⟩ := ddL_py 63 xs h
  show eqVal (.lst xs) (.int i) st = _
  rw [eq_kind (d := .list d) (e := (.int i)) (by show toPy (.lst xs) = _; unfold toPy; rw [h1]; rfl) (by rfl) (shaped_of h2 h3) (by rfl)]; rfl
theorem qkn_lst_int {i : Int} {xs : List Val} (h : ddL 63 xs = true) : cmpVal .ne (.lst xs) (.int i) st = some true := by
  show (eqVal (.lst xs) (.int i) st).map (!·) = _
  rw [show eqVal (.lst xs) (.int i) st = cmpVal .eq (.lst xs) (.int i) st from rfl, qk_lst_int h]; rfl
theorem qk_int_lst {i : Int} {xs : List Val} (h : ddL 63 xs = true) : cmpVal .eq (.int i) (.lst xs) st = some false := by
  obtain ⟨d, h1, h2, h3, h4⟩ := ddL_py 63 xs h
  show eqVal (.int i) (.lst xs) st = _
  rw [eq_kind (d := (.int i)) (e := .list d) (by rfl) (by show toPy (.lst xs) = _; unfold toPy; rw [h1]; rfl) (by rfl) (shaped_of h2 h3)]; rfl
theorem qkn_int_lst {i : Int} {xs : List Val} (h : ddL 63 xs = true) : cmpVal .ne (.int i) (.lst xs) st = some true := by
  show (eqVal (.int i) (.lst xs) st).map (!·) = _
  rw [show eqVal (.int i) (.lst xs) st = cmpVal .eq (.int i) (.lst xs) st from rfl, qk_int_lst h]; rfl
theorem qk_lst_str {s : String} {xs : List Val} (h : ddL 63 xs = true) : cmpVal .eq (.lst xs) (.str (Str.ofString s)) st = some false := by
  obtain ⟨d, h1, h2, h3, h4⟩ := ddL_py 63 xs h
  show eqVal (.lst xs) (.str (Str.ofString s)) st = _
  rw [eq_kind (d := .list d) (e := (.str (Str.ofString s))) (by show toPy (.lst xs) = _; unfold toPy; rw [h1]; rfl) (by rfl) (shaped_of h2 h3) (by unfold SeqAt.shaped PyData.canLay0; rw [strOk_of]; rfl)]; rfl
theorem qkn_lst_str {s : String} {xs : List Val} (h : ddL 63 xs = true) : cmpVal .ne (.lst xs) (.str (Str.ofString s)) st = some true := by
  show (eqVal (.lst xs) (.str (Str.ofString s)) st).map (!·) = _
  rw [show eqVal (.lst xs) (.str (Str.ofString s)) st = cmpVal .eq (.lst xs) (.str (Str.ofString s)) st from rfl, qk_lst_str h]; rfl
theorem qk_str_lst {s : String} {xs : List Val} (h : ddL 63 xs = true) : cmpVal .eq (.str (Str.ofString s)) (.lst xs) st = some false := by
  obtain ⟨d, h1, h2, h3, h4⟩ := ddL_py 63 xs h
  show eqVal (.str (Str.ofString s)) (.lst xs) st = _
  rw [eq_kind (d := (.str (Str.ofString s))) (e := .list d) (by rfl) (by show toPy (.lst xs) = _; unfold toPy; rw [h1]; rfl) (by unfold SeqAt.shaped PyData.canLay0; rw [strOk_of]; rfl) (shaped_of h2 h3)]; rfl
theorem qkn_str_lst {s : String} {xs : List Val} (h : ddL 63 xs = true) : cmpVal .ne (.str (Str.ofString s)) (.lst xs) st = some true := by
  show (eqVal (.str (Str.ofString s)) (.lst xs) st).map (!·) = _
  rw [show eqVal (.str (Str.ofString s)) (.lst xs) st = cmpVal .eq (.str (Str.ofString s)) (.lst xs) st from rfl, qk_str_lst h]; rfl
theorem dn {n : Nat} : dd n .non = true := by cases n <;> simp [dd]
theorem db {n : Nat} {b : Bool} : dd n (.bl b) = true := by cases n <;> simp [dd]
theorem di {n : Nat} {b : Int} : dd n (.int b) = true := by cases n <;> simp [dd]
theorem ds {n : Nat} {x : String} : dd n (.str (Str.ofString x)) = true := by cases n <;> simp [dd, strOk_of]
theorem dt {n : Nat} {xs : List Val} : dd (n + 1) (.tup xs) = ddL n xs := by rw [dd]
theorem dl {n : Nat} {xs : List Val} : dd (n + 1) (.lst xs) = ddL n xs := by rw [dd]
theorem dkt {n : Nat} {xs : List Val} : dd (n + 1) (.ktup xs) = ddL n xs := by rw [dd]
theorem dkl {n : Nat} {xs : List Val} : dd (n + 1) (.klst xs) = ddL n xs := by rw [dd]
theorem dL0 {n : Nat} : ddL n [] = true := by cases n <;> simp [ddL]
theorem dL1 {n : Nat} {x : Val} {xs : List Val} : ddL n (x :: xs) = (dd n x && ddL n xs) := by rw [ddL]
theorem and_tt : (true && true) = true := (rfl)
theorem and_t {b : Bool} : (true && b) = b := by simp
theorem and_t' {b : Bool} : (b && true) = b := by simp
theorem and_ff {b : Bool} : (false && b) = false := by simp
theorem or_t {b : Bool} : (true || b) = true := by simp
theorem or_f {b : Bool} : (false || b) = b := by simp
theorem ddL_all {n : Nat} {xs : List Val} : ddL n xs = true ↔ ∀ x ∈ xs, dd n x = true := by
  induction xs with
  | nil => simp [ddL]
  | cons x xs ih => simp [ddL, ih]
theorem dLi {n : Nat} {xs : List Int} : ddL n (xs.map .int) = true := by
  rw [ddL_all]; intro x hx; obtain ⟨y, _, rfl⟩ := List.mem_map.mp hx; exact di
theorem at_if {a b : Val} {p : Prop} [Decidable p] {P : Val → Prop} : optB (L2.atI [a, b] (if p then 1 else 0)) P ↔ (p → P b) ∧ (¬ p → P a) := by
  by_cases h : p
  · simp only [h, if_true, at1, ob_some, true_imp_iff, not_true, false_imp_iff, and_true]
  · simp only [h, if_false, at0, ob_some, false_imp_iff, not_false_iff, true_imp_iff, true_and]
/-- an item by a place in bounds -/
theorem at_any {xs : List Val} {x : Int} {P : Val → Prop} (h0 : 0 ≤ x) (h1 : x < xs.length) (h : ∀ v ∈ xs, P v) : optB (L2.atI xs x) P := by
  have e : L2.atI xs x = xs[x.toNat]? := by unfold L2.atI L2.ixN; simp [h0, h1]
  have h2 : x.toNat < xs.length := by omega
  exact ⟨xs[x.toNat], by rw [e, List.getElem?_eq_getElem h2], h _ (List.getElem_mem h2)⟩
/-! ### cells -/
def lstO : Option Obj → Option (List Val)
  | some (.lst xs) => some xs
  | _ => none
def dctO : Option Obj → Option (List (Val × Val))
  | some (.dct xs) => some xs
  | _ => none
def insO : Option Obj → Option (Str × List (Str × Val))
  | some (.ins C fs) => some (C, fs)
  | _ => none
theorem lO {xs : List Val} : lstO (some (.lst xs)) = some xs := (rfl)
theorem dO {xs : List (Val × Val)} : dctO (some (.dct xs)) = some xs := (rfl)
theorem lO' {xs : List (Val × Val)} : lstO (some (.dct xs)) = none := (rfl)
theorem dO' {xs : List Val} : dctO (some (.lst xs)) = none := (rfl)
theorem lO2 {C : Str} {fs : List (Str × Val)} : lstO (some (.ins C fs)) = none := (rfl)
theorem dO2 {C : Str} {fs : List (Str × Val)} : dctO (some (.ins C fs)) = none := (rfl)
theorem iO {C : Str} {fs : List (Str × Val)} : insO (some (.ins C fs)) = some (C, fs) := (rfl)
theorem lo_ref {i : Nat} : lstOf st (.ref i) = lstO st[i]? := by
  show (match st[i]? with
    | some (.lst xs) => some xs
    | _ => none : Option (List Val)) = _
  cases st[i]? with
  | none => rfl
  | some o => cases o <;> rfl
theorem sq_ref {i : Nat} : seqOf st (.ref i) = lstO st[i]? := by
  rw [show seqOf st (.ref i) = lstOf st (.ref i) from rfl, lo_ref]
theorem do_ref {i : Nat} : dctOf st (.ref i) = dctO st[i]? := by
  show (match st[i]? with
    | some (.dct xs) => some xs
    | _ => none : Option (List (Val × Val))) = _
  cases st[i]? with
  | none => rfl
  | some o => cases o <;> rfl
theorem get0 {α : Type} {a : α} {l : List α} : (a :: l)[0]? = some a := (rfl)
theorem getS {α : Type} {a : α} {l : List α} {k : Nat} : (a :: l)[k + 1]? = l[k]? := List.getElem?_cons_succ
theorem set0 {α : Type} {a b : α} {l : List α} : (a :: l).set 0 b = b :: l := (rfl)
theorem setS {α : Type} {a b : α} {l : List α} {k : Nat} : (a :: l).set (k + 1) b = a :: l.set k b := (rfl)
theorem gl0 {α : Type} {r l : List α} : (r ++ l)[r.length]? = l[0]? := by rw [List.getElem?_append_right (Nat.le_refl _), Nat.sub_self]
theorem gl {α : Type} {r l : List α} {k : Nat} : (r ++ l)[r.length + k]? = l[k]? := by rw [List.getElem?_append_right (by omega)]; congr 1; omega
theorem sl0 {α : Type} {r l : List α} {o : α} : (r ++ l).set r.length o = r ++ l.set 0 o := by rw [List.set_append_right _ _ (Nat.le_refl _), Nat.sub_self]
theorem sl {α : Type} {r l : List α} {k : Nat} {o : α} : (r ++ l).set (r.length + k) o = r ++ l.set k o := by rw [List.set_append_right _ _ (by omega)]; congr 2; omega
theorem l_app {α : Type} {r l : List α} : (r ++ l).length = r.length + l.length := List.length_append
theorem app_as {α : Type} {r l m : List α} : r ++ l ++ m = r ++ (l ++ m) := List.append_assoc ..
theorem bk_ref {m : Bm} {i : Nat} (h : m ≠ .get1 ∧ m ≠ .get2 := by decide) : (bmKind m (.ref i) st = true) = ((lstO st[i]?).isSome = true) := by
  rw [← lo_ref]
  cases m <;> first | rfl | exact absurd rfl h.1 | exact absurd rfl h.2
theorem bk_app {i : Nat} : bmKind .append (.ref i) st = (lstO st[i]?).isSome := by rw [← lo_ref]; rfl
theorem bk_pop {i : Nat} : bmKind .pop (.ref i) st = (lstO st[i]?).isSome := by rw [← lo_ref]; rfl
theorem bk_popAt {i : Nat} : bmKind .popAt (.ref i) st = (lstO st[i]?).isSome := by rw [← lo_ref]; rfl
theorem bk_ext {i : Nat} : bmKind .extend (.ref i) st = (lstO st[i]?).isSome := by rw [← lo_ref]; rfl
theorem bk_clr {i : Nat} : bmKind .clear (.ref i) st = (lstO st[i]?).isSome := by rw [← lo_ref]; rfl
theorem is_some' {α : Type} {a : α} : (some a).isSome = true := (rfl)
theorem is_none' {α : Type} : (none : Option α).isSome = false := (rfl)
theorem bk_kd1 {kvs : List (Str × Val)} : bmKind .get1 (.kdct kvs) st = true := (rfl)
theorem bk_kd2 {kvs : List (Str × Val)} : bmKind .get2 (.kdct kvs) st = true := (rfl)
theorem lookO {α : Type} {i : Nat} {f : List Val → Option α} {Q : α → Store → Prop} : wp (look fun st => match st[i]? with
    | some (.lst xs) => f xs
    | _ => none) st Q ↔ ∃ xs, lstO st[i]? = some xs ∧ ∃ a, f xs = some a ∧ Q a st := by
  rw [wp_look]
  cases st[i]? with
  | none => simp [lstO]
  | some o => cases o <;> simp [lstO]
theorem bm_append {i : Nat} {y : Val} {Q : Val → Store → Prop} : wq (bmVal .append (.ref i) [y]) st Q ↔ optB (lstO st[i]?) fun xs => xs.length < sizeLine ∧ Q .non (st.set i (.lst (xs ++ [y]))) := by
  show wp (do
      let xs ← look fun st => match st[i]? with
        | some (.lst xs) => if xs.length < sizeLine then some xs else none
        | _ => none
      write i (.lst (xs ++ [y]))
      pure .non) st Q ↔ _
  rw [wp_bind, lookO]
  simp only [wp_bind, wp_write, wp_pure]
  constructor
  · rintro ⟨xs, h1, a, h2, h3⟩
    split at h2
    · cases h2; exact ⟨xs, h1, by assumption, h3⟩
    · cases h2
  · rintro ⟨xs, h1, h2, h3⟩
    exact ⟨xs, h1, xs, by rw [if_pos h2], h3⟩
theorem bm_extend {i : Nat} {y : Val} {Q : Val → Store → Prop} : wq (bmVal .extend (.ref i) [y]) st Q ↔ optB (lstO st[i]?) fun xs => optB (ownLst st y) fun ys => xs.length + ys.length ≤ sizeLine ∧ Q .non (st.set i (.lst (xs ++ ys))) := by
  show wp (do
      let xs ← look fun st => match st[i]? with
        | some (.lst xs) => some xs
        | _ => none
      let ys ← look fun st => ownLst st y
      lenOk (xs.length + ys.length)
      write i (.lst (xs ++ ys))
      pure .non) st Q ↔ _
  rw [wp_bind, lookO]
  simp only [wp_bind, wp_write, wp_pure, wp_look, wp_lenOk, optB]
  constructor
  · rintro ⟨xs, h1, a, h2, h3⟩; cases h2; exact ⟨xs, h1, h3⟩
  · rintro ⟨xs, h1, h3⟩; exact ⟨xs, h1, xs, rfl, h3⟩
theorem bm_pop {i : Nat} {Q : Val → Store → Prop} : wq (bmVal .pop (.ref i) []) st Q ↔ optB (lstO st[i]?) fun xs => optB xs[xs.length - 1]? fun y => Q y (st.set i (.lst xs.dropLast)) := by
  show wp (do
      let xs ← look fun st => match st[i]? with
        | some (.lst xs) => some xs
        | _ => none
      let y ← lift xs[xs.length - 1]?
      write i (.lst xs.dropLast)
      pure y) st Q ↔ _
  rw [wp_bind, lookO]
  simp only [wp_bind, wp_write, wp_pure, wp_lift, optB]
  constructor
  · rintro ⟨xs, h1, a, h2, h3⟩; cases h2; exact ⟨xs, h1, h3⟩
  · rintro ⟨xs, h1, h3⟩; exact ⟨xs, h1, xs, rfl, h3⟩
theorem ow_lst {xs : List Val} : ownLst st (.lst xs) = some xs := (rfl)
theorem ow_ref {i : Nat} : ownLst st (.ref i) = lstO st[i]? := by rw [← lo_ref]; rfl
theorem i_ref {i : Nat} {k : Int} : idxVal (.ref i) (.int k) st = (match dctO st[i]? with
    | some kvs => getK kvs (.int k)
    | none => (lstO st[i]?).bind fun xs => L2.atI xs k) := by
  rw [← do_ref, ← sq_ref]; rfl
theorem i_refL {i : Nat} {k : Int} {xs : List Val} (h : st[i]? = some (.lst xs)) : idxVal (.ref i) (.int k) st = L2.atI xs k := by
  rw [i_ref, h]; rfl
theorem b_tupR {cc : Bool} {i : Nat} {Q : Val → Store → Prop} : wq (bltVal cc .tuple [.ref i]) st Q ↔ optB (lstO st[i]?) fun xs => Q (.tup xs) st := by
  show wp (bltVal cc .tuple [.ref i]) st Q ↔ _
  unfold bltVal
  rw [wp_look]
  rw [show tupOf (.ref i) = none from rfl]
  dsimp only
  rw [lo_ref]
  constructor
  · rintro ⟨v, e, q⟩
    obtain ⟨xs, h1, rfl⟩ := Option.map_eq_some_iff.mp e
    exact ⟨xs, h1, q⟩
  · rintro ⟨xs, h1, q⟩
    exact ⟨_, by rw [h1]; rfl, q⟩
theorem b_lenR {cc : Bool} {i : Nat} {xs : List Val} {Q : Val → Store → Prop} (h : st[i]? = some (.lst xs)) : wq (bltVal cc .len [.ref i]) st Q ↔ Q (.int xs.length) st := by
  show wp (bltVal cc .len [.ref i]) st Q ↔ _
  unfold bltVal
  rw [wp_look]
  dsimp only
  rw [sq_ref, h, lO]
  simp
/-! ### walks over rows of things -/
theorem comp_mapT {α : Type} (enc g : α → Val) {items : List Val} {bk : Bool} {elt : Ex} {i : Nat} {ρ : Mn.Env} : ∀ {l : List α} {Q : List Val → Store → Prop}, (∀ a ∈ l, ∀ Q : Val → Store → Prop, wq (evalE c elt (ρ.set i (some (enc a)))) st Q ↔ Q (g a) st) →
    (wq (compLoop ⟨items, none, bk⟩ (.nm i) ρ (evalT c []) (fun ρ' => do let y ← evalE c elt ρ'; pure [y]) (l.map enc)) st Q ↔ Q (l.map g) st)
  | [], Q, _ => by
    show wp _ _ _ ↔ _
    rw [List.map_nil]
    exact cl_nil0.trans (by simp [wi_still])
  | a :: l, Q, h => by
    show wp _ _ _ ↔ _
    rw [List.map_cons]
    rw [cl_cons0]
    have h1 := h a (List.mem_cons_self ..)
    have ih := fun Q => comp_mapT enc g (items := items) (bk := bk) (elt := elt) (i := i) (ρ := ρ) (l := l) (Q := Q) (fun b hb => h b (List.mem_cons_of_mem _ hb))
    constructor
    · rintro ⟨_, ρ', e, h2⟩
      cases e
      have h3 := (wp_t0.mp h2).1 rfl
      rw [wp_bind] at h3
      have h4 := (h1 _).mp h3
      exact (ih _).mp (wp_pure.mp h4)
    · intro q
      refine ⟨rfl, _, rfl, wp_t0.mpr ⟨fun _ => ?_, fun z => Bool.noConfusion z⟩⟩
      rw [wp_bind]
      refine (h1 _).mpr (wp_pure.mpr ?_)
      exact (ih _).mpr q
theorem comp_filT {α : Type} (enc g : α → Val) (p : α → Bool) {items : List Val} {bk : Bool} {elt t : Ex} {i : Nat} {ρ : Mn.Env} : ∀ {l : List α} {Q : List Val → Store → Prop}, (∀ a ∈ l, ∀ Q : Bool → Store → Prop, wq (evalT c [t] (ρ.set i (some (enc a)))) st Q ↔ Q (p a) st) → (∀ a ∈ l, p a = true → ∀ Q : Val → Store → Prop, wq (evalE c elt (ρ.set i (some (enc a)))) st Q ↔ Q (g a) st) →
    (wq (compLoop ⟨items, none, bk⟩ (.nm i) ρ (evalT c [t]) (fun ρ' => do let y ← evalE c elt ρ'; pure [y]) (l.map enc)) st Q ↔ Q ((l.filter p).map g) st)
  | [], Q, _, _ => by
    show wp _ _ _ ↔ _
    rw [List.map_nil]
    exact cl_nil0.trans (by simp [wi_still])
  | a :: l, Q, ht, h => by
    show wp _ _ _ ↔ _
    rw [List.map_cons]
    rw [cl_cons0]
    have h1 := h a (List.mem_cons_self ..)
    have t1 := ht a (List.mem_cons_self ..)
    have ih := fun Q => comp_filT enc g p (items := items) (bk := bk) (elt := elt) (t := t) (i := i) (ρ := ρ) (l := l) (Q := Q) (fun b hb => ht b (List.mem_cons_of_mem _ hb)) (fun b hb => h b (List.mem_cons_of_mem _ hb))
    constructor
    · rintro ⟨_, ρ', e, h2⟩
      cases e
      have h3 := (t1 _).mp h2
      cases hp : p a with
      | true =>
        have h4 := h3.1 hp
        rw [wp_bind] at h4
        have h5 := wp_pure.mp ((h1 hp _).mp h4)
        rw [List.filter_cons, hp]
        exact (ih _).mp h5
      | false =>
        rw [List.filter_cons, hp]
        exact (ih _).mp (h3.2 hp)
    · intro q
      refine ⟨rfl, _, rfl, (t1 _).mpr ⟨fun hp => ?_, fun hp => ?_⟩⟩
      · rw [wp_bind]
        refine (h1 hp _).mpr (wp_pure.mpr ?_)
        rw [List.filter_cons, hp] at q
        exact (ih _).mpr q
      · rw [List.filter_cons, hp] at q
        exact (ih _).mpr q
def lastO {α : Type} (enc : α → Val) : Option Val → List α → Option Val
  | o, [] => o
  | _, a :: l => lastO enc (some (enc a)) l
/-- a for over a row of things that gathers a state -/
theorem for_foldT {α σ : Type} (enc : α → Val) (env : σ → Option Val → Mn.Env) (f : σ → α → σ) {items : List Val} {bk : Bool} {b : List Sm} {i : Nat} : ∀ {l : List α} {x : σ} {o : Option Val} {Q : Flow → Store → Prop},
    (∀ a ∈ l, ∀ (x : σ) (o : Option Val) (Q : Flow → Store → Prop), wq (execB c b ((env x o).set i (some (enc a)))) st Q ↔ Q (.nxt (env (f x a) (some (enc a)))) st) →
    (wq (forLoop ⟨items, none, bk⟩ (.nm i) (execB c b) (l.map enc) (env x o)) st Q ↔ Q (.nxt (env (l.foldl f x) (lastO enc o l))) st)
  | [], x, o, Q, _ => by
    show wp _ _ _ ↔ _
    rw [List.map_nil]
    exact lf_nil0.trans (by simp [wi_still, lastO])
  | a :: l, x, o, Q, h => by
    show wp _ _ _ ↔ _
    rw [List.map_cons, lf_cons0]
    have h1 := h a (List.mem_cons_self ..)
    have ih := fun x o Q => for_foldT enc env f (items := items) (bk := bk) (b := b) (i := i) (l := l) (x := x) (o := o) (Q := Q) (fun a ha => h a (List.mem_cons_of_mem _ ha))
    constructor
    · rintro ⟨_, ρ', e, h2⟩
      cases e
      exact (ih _ _ _).mp ((h1 x o _).mp h2)
    · intro q
      exact ⟨rfl, _, rfl, (h1 x o _).mpr ((ih _ _ _).mpr q)⟩
/-- .. where the states have P -/
theorem for_foldP {α σ : Type} (P : σ → Prop) (enc : α → Val) (env : σ → Option Val → Mn.Env) (f : σ → α → σ) {items : List Val} {bk : Bool} {b : List Sm} {i : Nat} : ∀ {l : List α} {x : σ} {o : Option Val} {Q : Flow → Store → Prop}, P x → (∀ a ∈ l, ∀ x, P x → P (f x a)) →
    (∀ a ∈ l, ∀ (x : σ) (o : Option Val) (Q : Flow → Store → Prop), P x → (wq (execB c b ((env x o).set i (some (enc a)))) st Q ↔ Q (.nxt (env (f x a) (some (enc a)))) st)) →
    (wq (forLoop ⟨items, none, bk⟩ (.nm i) (execB c b) (l.map enc) (env x o)) st Q ↔ Q (.nxt (env (l.foldl f x) (lastO enc o l))) st)
  | [], x, o, Q, _, _, _ => by
    show wp _ _ _ ↔ _
    rw [List.map_nil]
    exact lf_nil0.trans (by simp [wi_still, lastO])
  | a :: l, x, o, Q, hp, hf, h => by
    show wp _ _ _ ↔ _
    rw [List.map_cons, lf_cons0]
    have h1 := h a (List.mem_cons_self ..)
    have ih := fun x o Q hx => for_foldP P enc env f (items := items) (bk := bk) (b := b) (i := i) (l := l) (x := x) (o := o) (Q := Q) hx (fun a ha => hf a (List.mem_cons_of_mem _ ha)) (fun a ha => h a (List.mem_cons_of_mem _ ha))
    have hp2 := hf a (List.mem_cons_self ..) x hp
    constructor
    · rintro ⟨_, ρ', e, h2⟩
      cases e
      exact (ih _ _ _ hp2).mp ((h1 x o _ hp).mp h2)
    · intro q
      exact ⟨rfl, _, rfl, (h1 x o _ hp).mpr ((ih _ _ _ hp2).mpr q)⟩
theorem rv_map {lo : Int} {n : Nat} : rngVals lo n = (List.range n).map fun i => Val.int (lo + (i : Nat)) := rfl
theorem cut_last {xs : List Val} : cutL xs none (some ((xs.length : Int) - 1)) = xs.dropLast := by
  unfold cutL
  rw [List.dropLast_eq_take]
  show List.take (HT.sIx xs.length xs.length (some ((xs.length : Int) - 1)) - HT.sIx xs.length 0 none) (List.drop (HT.sIx xs.length 0 none) xs) = _
  unfold HT.sIx
  dsimp only
  rw [List.drop_zero, Nat.sub_zero]
  congr 1
  split <;> omega
theorem b_sumT {α : Type} {cc : Bool} {l : List α} {g : α → Int} {Q : Val → Store → Prop} : wq (bltVal cc .sum [.lst (l.map fun a => Val.int (g a))]) st Q ↔ Q (.int (l.map g).sum) st := by
  have : (l.map fun a => Val.int (g a)) = (l.map g).map .int := by rw [List.map_map]; rfl
  rw [this]
  exact blt_sum
theorem b_sumL {cc : Bool} {l : List Val} {ns : List Int} {Q : Val → Store → Prop} (h : intsOf l = some ns) : wq (bltVal cc .sum [.lst l]) st Q ↔ Q (.int ns.sum) st := by
  show wp (bltVal cc .sum [.lst l]) st Q ↔ _
  unfold bltVal
  rw [wp_look]
  simp [lstOf, h]
theorem b_sumN {cc : Bool} {Q : Val → Store → Prop} : wq (bltVal cc .sum [.lst []]) st Q ↔ Q (.int 0) st := b_sumL (ns := []) rfl
theorem b_sum1 {cc : Bool} {a : Int} {Q : Val → Store → Prop} : wq (bltVal cc .sum [.lst [.int a]]) st Q ↔ Q (.int (a + 0)) st := b_sumL (ns := [a]) rfl
theorem b_sum2 {cc : Bool} {a b : Int} {Q : Val → Store → Prop} : wq (bltVal cc .sum [.lst [.int a, .int b]]) st Q ↔ Q (.int (a + (b + 0))) st := b_sumL (ns := [a, b]) rfl
/-! ### more -/
theorem eq_dd {a b : Val} {n m : Nat} (ha : dd 64 a = true) (hb : dd 64 b = true) : ∃ d e, toPy a = some d ∧ toPy b = some e ∧ eqVal a b st = some (PyData.eqv d e) := by
  obtain ⟨d, h1, h2, h3, h4⟩ := dd_py 64 a ha
  obtain ⟨e, k1, k2, k3, k4⟩ := dd_py 64 b hb
  have hs : SeqAt.shaped d = true := by unfold SeqAt.shaped; rw [h2, decide_eq_true h3]; rfl
  have ks : SeqAt.shaped e = true := by unfold SeqAt.shaped; rw [k2, decide_eq_true k3]; rfl
  refine ⟨d, e, h1, k1, ?_⟩
  exact eq_kind (by rw [deref_dd ha]; exact h1) (by rw [deref_dd hb]; exact k1) hs ks
theorem q_eq_lnil {xs : List Val} (h : ddL 63 xs = true) : cmpVal .eq (.lst xs) (.lst []) st = some xs.isEmpty := by
  obtain ⟨d, e, h1, h2, h3⟩ := eq_dd (st := st) (n := 0) (m := 0) (a := .lst xs) (b := .lst []) (by rw [dl]; exact h) (by rw [dl, dL0])
  show eqVal (.lst xs) (.lst []) st = _
  rw [h3]
  cases xs with
  | nil => cases h1; cases h2; rfl
  | cons x xs =>
    unfold toPy toPyL at h1
    cases q : toPy x with
    | none => rw [q] at h1; cases h1
    | some d1 =>
      rw [q] at h1
      cases q2 : toPyL xs with
      | none => rw [q2] at h1; cases h1
      | some ds =>
        rw [q2] at h1
        cases h1; cases h2; rfl
theorem q_ne_lnil {xs : List Val} (h : ddL 63 xs = true) : cmpVal .ne (.lst xs) (.lst []) st = some (!xs.isEmpty) := by
  show (eqVal (.lst xs) (.lst []) st).map (!·) = _
  rw [show eqVal (.lst xs) (.lst []) st = cmpVal .eq (.lst xs) (.lst []) st from rfl, q_eq_lnil h]; rfl
theorem rv3 : rngVals 0 3 = [.int 0, .int 1, .int 2] := (rfl)
theorem rv4 : rngVals 0 4 = [.int 0, .int 1, .int 2, .int 3] := (rfl)
theorem rv2 : rngVals 0 2 = [.int 0, .int 1] := (rfl)
theorem rv1 : rngVals 0 1 = [.int 0] := (rfl)
/-- what a def over no cell comes to -/
def resOf (D : Defs) (G : Str → Option Val) (f : Str) (vs : List Val) : Val := match callFn D G 20 (Str.ofString "") f vs [] with
  | .ok v _ => v
  | _ => .non
def okB (D : Defs) (G : Str → Option Val) (f : Str) (vs : List Val) : Bool := match callFn D G 20 (Str.ofString "") f vs [] with
  | .ok v [] => old 0 v
  | _ => false
theorem res_ok {D : Defs} {G : Str → Option Val} {f : Str} {vs : List Val} (h : okB D G f vs = true) : callFn D G 20 (Str.ofString "") f vs [] = .ok (resOf D G f vs) [] ∧ old 0 (resOf D G f vs) = true := by
  unfold okB at h
  unfold resOf
  split at h
  · rename_i v e; rw [e]; exact ⟨rfl, h⟩
  · cases h
theorem res_wp {D : Defs} {G : Str → Option Val} (cl : Clo D G) {n : Nat} {f : Str} {vs : List Val} {Q : Val → Store → Prop} (h : okB D G f vs = true) (hv : oldL 0 vs = true) (hn : 20 ≤ n) (hw : Wf st) : wq (callFn D G n (Str.ofString "") f vs) st Q ↔ Q (resOf D G f vs) st :=
  run_wp cl (res_ok h).1 hn hv (res_ok h).2 hw
end
end Mn

end

section
set_option maxHeartbeats 4000000
/-! Mn: defs that draw from a tape (a cell at 0). -/
namespace Mn
open PySem
/-- the cells behind the tape point at none above -/
def WfR (rest : Store) : Prop := rest.all (oldO (rest.length + 1)) = true
theorem wfr_nil : WfR [] := (rfl)
theorem oldO_0 {k : Nat} {o : Obj} (h : oldO 0 o = true) : oldO k o = true := oldO_mono (Nat.zero_le k) h
theorem wfr_app {rest : Store} {o : Obj} (h : WfR rest) (ho : oldO 0 o = true) : WfR (rest ++ [o]) := by
  unfold WfR at h ⊢
  rw [List.all_append, Bool.and_eq_true]
  refine ⟨?_, by simp [oldO_0 ho]⟩
  rw [List.all_eq_true] at h ⊢
  intro x hx
  exact oldO_mono (by simp) (h x hx)
section
variable {T : Type} {tp : T → Obj} {D : Defs} {G : Str → Option Val}
/-- the tape's object holds no cell -/
def TpOk (tp : T → Obj) : Prop := ∀ t, oldO 0 (tp t) = true
theorem wf_tp (ht : TpOk tp) {t : T} {rest : Store} (hr : WfR rest) : Wf (tp t :: rest) := by
  unfold Wf
  rw [List.all_cons, List.length_cons, Bool.and_eq_true]
  exact ⟨oldO_0 (ht t), hr⟩
/-- f draws from the tape and returns something with P -/
def Gen (D : Defs) (G : Str → Option Val) (tp : T → Obj) (k : Nat) (f : Str) (vs : List Val) (P : Val → Prop) : Prop :=
  ∀ {n : Nat} {t : T} {rest : Store} {Q : Val → Store → Prop}, k ≤ n → WfR rest → (∀ v t', P v → Q v (tp t' :: rest)) → wp (callFn D G n (Str.ofString "") f (.ref 0 :: vs)) (tp t :: rest) Q
theorem Gen.mono {k k' : Nat} {f : Str} {vs : List Val} {P P' : Val → Prop} (h : Gen D G tp k f vs P) (hk : k ≤ k') (hp : ∀ v, P v → P' v) : Gen D G tp k' f vs P' :=
  fun hn hr q => h (Nat.le_trans hk hn) hr fun v t' hv => q v t' (hp v hv)
/-- how a def that draws ends -/
def finT (tp : T → Obj) (rest : Store) (P : Val → Prop) : Flow → Store → Prop
  | .nxt _, s => P .non ∧ ∃ t' ext, s = tp t' :: (rest ++ ext)
  | .ret v, s => (∃ u, frz (rest.length + 1) s 20 v = some u ∧ P u) ∧ ∃ t' ext, s = tp t' :: (rest ++ ext)
  | _, _ => False
theorem shape0 {t : T} {rest : Store} : (∃ t' ext, tp t :: rest = tp t' :: (rest ++ ext)) = True := by
  simp only [eq_iff_iff, iff_true]; exact ⟨t, [], by simp⟩
theorem shape1 {t : T} {rest ext : Store} : (∃ t' ext', tp t :: (rest ++ ext) = tp t' :: (rest ++ ext')) = True := by
  simp only [eq_iff_iff, iff_true]; exact ⟨t, ext, rfl⟩
theorem ft_ret {t : T} {rest : Store} {P : Val → Prop} {v : Val} (h : old 0 v = true) : finT tp rest P (.ret v) (tp t :: rest) ↔ P v := by
  show ((∃ u, frz (rest.length + 1) _ 20 v = some u ∧ P u) ∧ _) ↔ _
  rw [frz_old (old_mono (Nat.zero_le _) v h), ex_some, shape0]; simp
theorem ft_ret1 {t : T} {rest ext : Store} {P : Val → Prop} {v : Val} (h : old 0 v = true) : finT tp rest P (.ret v) (tp t :: (rest ++ ext)) ↔ P v := by
  show ((∃ u, frz (rest.length + 1) _ 20 v = some u ∧ P u) ∧ _) ↔ _
  rw [frz_old (old_mono (Nat.zero_le _) v h), ex_some, shape1]; simp
theorem ft_nxt {t : T} {rest : Store} {P : Val → Prop} {ρ : Mn.Env} : finT tp rest P (.nxt ρ) (tp t :: rest) ↔ P .non := by
  show (P .non ∧ _) ↔ _
  rw [shape0]; simp
theorem gen_of {k : Nat} {F : Fn} {f : Str} {vs : List Val} {P : Val → Prop} (ht : TpOk tp) (hF : findFn D (Str.ofString "") f = some F) (hl : vs.length + 1 = F.np) (hd : F.drop = true)
    (h : ∀ m t rest, k ≤ m → WfR rest → wp (execB (cf D G m) F.body (startEnv F.n (.ref 0 :: vs))) (tp t :: rest) (finT tp rest P)) : Gen D G tp (k + 1) f vs P := by
  intro n t rest Q hn hr q
  obtain ⟨m, rfl⟩ : ∃ m, n = m + 1 := ⟨n - 1, by omega⟩
  have leaveT : ∀ (v u : Val) (t' : T) (ext : Store), frz (rest.length + 1) (tp t' :: (rest ++ ext)) 20 v = some u → P u → wp (leave (rest.length + 1) v) (tp t' :: (rest ++ ext)) Q := by
    intro v u t' ext hz hp
    refine ⟨u, tp t' :: rest, ?_, q u t' hp⟩
    unfold leave
    have e : List.take (rest.length + 1) (tp t' :: (rest ++ ext)) = tp t' :: rest := by simp
    rw [hz, e]
    have w := wf_tp (t := t') ht hr
    unfold Wf at w
    rw [List.length_cons] at w
    rw [w]
  refine wp_fn hF hl (wp_mono (h m t rest (by omega) hr) fun fl s hs => ?_)
  rw [List.length_cons]
  cases fl with
  | nxt ρ =>
    obtain ⟨hp, t', ext, rfl⟩ := hs
    show wp (if F.drop then leave _ .non else pure .non) _ _
    rw [if_pos hd]
    exact leaveT .non .non t' ext (frz_old rfl) hp
  | ret v =>
    obtain ⟨⟨u, hz, hp⟩, t', ext, rfl⟩ := hs
    show wp (if F.drop then leave _ v else pure v) _ _
    rw [if_pos hd]
    exact leaveT v u t' ext hz hp
  | brk ρ => exact hs
  | cnt ρ => exact hs
theorem gen_w {k n : Nat} {F : Fn} {f : Str} {vs : List Val} {P : Val → Prop} {t : T} {rest : Store} {Q : Val → Store → Prop} (ht : TpOk tp) (hF : findFn D (Str.ofString "") f = some F) (hl : vs.length + 1 = F.np) (hd : F.drop = true)
    (hn : k + 1 ≤ n) (hr : WfR rest) (q : ∀ v t', P v → Q v (tp t' :: rest)) (h : ∀ m t rest, k ≤ m → WfR rest → wq (execB (cf D G m) F.body (startEnv F.n (.ref 0 :: vs))) (tp t :: rest) (finT tp rest P)) : wq (callFn D G n (Str.ofString "") f (.ref 0 :: vs)) (tp t :: rest) Q :=
  gen_of (k := k) ht hF hl hd h hn hr q
/-- turns of a law over the tape alone -/
theorem turns_w {c : Cf} {i : Nat} {b : List Sm} {P : Mn.Env → Prop} {items l : List Val} {bk : Bool} {ρ : Mn.Env} {t : T} {rest : Store} {Q : Flow → Store → Prop} (h0 : P ρ) (hP : ∀ x ρ, P ρ → P (ρ.set i (some x)))
    (hb : ∀ t ρ (Q : Flow → Store → Prop), P ρ → (∀ t' ρ, P ρ → Q (.nxt ρ) (tp t' :: rest)) → wq (execB c b ρ) (tp t :: rest) Q) (q : ∀ t' ρ, P ρ → Q (.nxt ρ) (tp t' :: rest)) :
    wq (forLoop ⟨items, none, bk⟩ (.nm i) (execB c b) l ρ) (tp t :: rest) Q := by
  refine wf_for (fun _ ρ s => P ρ ∧ ∃ t', s = tp t' :: rest) ⟨h0, t, rfl⟩ ?_ ?_
  · rintro x l ρ s ⟨hp, t', rfl⟩
    refine ⟨rfl, _, rfl, hb t' _ _ (hP x ρ hp) fun t2 ρ2 h2 => ⟨h2, t2, rfl⟩⟩
  · rintro ρ s ⟨hp, t', rfl⟩
    exact ⟨rfl, q t' ρ hp⟩
/-- the rows that are left of a row -/
def subs {α : Type} : List α → List (List α)
  | [] => [[]]
  | x :: xs => (subs xs).map (x :: ·) ++ subs xs
/-- [x for x in l if ..] where the test draws -/
theorem comp_sub_w {c : Cf} {i : Nat} {ifs : List Ex} {items : List Val} {bk : Bool} {ρ : Mn.Env} {rest : Store} (hi : i < ρ.length) : ∀ {l : List Val} {t : T} {Q : List Val → Store → Prop},
    (∀ x ∈ l, ∀ t (Q : Bool → Store → Prop), (∀ b t', Q b (tp t' :: rest)) → wq (evalT c ifs (ρ.set i (some x))) (tp t :: rest) Q) → (∀ ys t', ys ∈ subs l → Q ys (tp t' :: rest)) →
    wq (compLoop ⟨items, none, bk⟩ (.nm i) ρ (evalT c ifs) (fun ρ' => do let y ← evalE c (.var i) ρ'; pure [y]) l) (tp t :: rest) Q
  | [], t, Q, _, q => cl_nil.mpr ⟨rfl, q [] t (by simp [subs])⟩
  | x :: l, t, Q, h, q => by
    refine cl_cons.mpr ⟨rfl, _, rfl, h x (List.mem_cons_self ..) t _ fun b t' => ⟨fun _ => ?_, fun _ => ?_⟩⟩
    · refine wp_bind.mpr (wp_var.mpr ⟨x, ?_, wp_pure.mpr ?_⟩)
      · exact gv (by simp [hi])
      · exact comp_sub_w hi (fun y hy => h y (List.mem_cons_of_mem _ hy)) fun ys t2 hy => q _ t2 (by simp [subs, hy])
    · exact comp_sub_w hi (fun y hy => h y (List.mem_cons_of_mem _ hy)) fun ys t2 hy => q _ t2 (by simp [subs, hy])
/-- a law, called over no cell -/
def finL : Flow → Store → Prop
  | .ret v, _ => v = .bl true
  | _, _ => False
theorem fl_ret {v : Val} {s : Store} : finL (.ret v) s ↔ v = .bl true := Iff.rfl
theorem fl_nxt {ρ : Mn.Env} {s : Store} : finL (.nxt ρ) s ↔ False := Iff.rfl
theorem law_of {k : Nat} {F : Fn} {f : Str} {vs : List Val} (hF : findFn D (Str.ofString "") f = some F) (hl : vs.length = F.np) (hd : F.drop = true) (h : wq (execB (cf D G k) F.body (startEnv F.n vs)) [] finL) : ∃ st, callFn D G (k + 1) (Str.ofString "") f vs [] = .ok (.bl true) st := by
  have := wp_fn (n := k) (D := D) (G := G) (C := Str.ofString "") (f := f) (vs := vs) (st := []) (Q := fun r s => r = .bl true) hF hl (wp_mono h fun fl s q => by
    cases fl with
    | ret v =>
      have q : v = .bl true := q
      subst q
      show wp (if F.drop then leave 0 _ else pure _) s _
      rw [if_pos hd, leave0]
      exact ⟨.bl true, rfl, rfl⟩
    | nxt ρ => exact q.elim
    | brk ρ => exact q.elim
    | cnt ρ => exact q.elim)
  obtain ⟨v, s, e, rfl⟩ := this
  exact ⟨s, e⟩
end
/-! ### the tape of most laws -/
structure TS where
  ns : List Int
  p : Int
  r : Int
  s : Int
  hp : 0 ≤ p
def tp (t : TS) : Obj := tapeO t.ns t.p t.r t.s
theorem tape0 {ns : List Int} {s : Int} : Obj.lst [.lst (ns.map .int), .int 0, .int 0, .int s] = tp ⟨ns, 0, 0, s, Int.le_refl 0⟩ := (rfl)
theorem tp_ok : TpOk tp := fun t => tape_old
/-- a whole number in a range -/
def IntIn (lo hi : Int) (v : Val) : Prop := ∃ i, v = .int i ∧ lo ≤ i ∧ i < hi
theorem next_gen {D : Defs} {G : Str → Option Val} (hD : findFn D (Str.ofString "") (Str.ofString "_law_next") = some lawNext) {many : Int} (hm : 0 < many) (hm2 : many < 1073741824) : Gen D G tp 1 (Str.ofString "_law_next") [.int many] (IntIn 0 many) := by
  intro n t rest Q hn hr q
  obtain ⟨m, rfl⟩ : ∃ m, n = m + 1 := ⟨n - 1, by omega⟩
  refine next_ok (i := 0) (ns := t.ns) hD hm hm2 ⟨t.p, t.r, t.s, t.hp, rfl⟩ (wf_tp tp_ok hr) fun v o h1 h2 h3 h4 => ?_
  obtain ⟨p, r, s, hp, e⟩ := h3
  simp at e
  subst e
  exact q (.int v) ⟨t.ns, p, r, s, hp⟩ ⟨v, rfl, h1, h2⟩
end Mn

end

section
set_option maxHeartbeats 0
namespace Law
open PySem PySem.Spec PyProof.Rows L2 Mn
def f_everybody : Fn := ⟨1, 1, [], [.ret (.bin .sub (.bin .shl (.cst (.int 1)) (.var 0)) (.cst (.int 1)))], true⟩
def f_readers : Fn := ⟨2, 2, [], [.ite (.cmp .eq (.idx (.var 0) (.cst (.int 0))) (.cst (.str "deck")))
     [.ret (.cst (.int 0))]
     [],
   .ite (.or (.cmp .eq (.idx (.var 0) (.cst (.int 0))) (.cst (.str "heap"))) (.cmp .eq (.idx (.var 0) (.cst (.int 0))) (.cst (.str "row"))))
     [.ret (.call "everybody" [.var 1])]
     [],
   .ret (.bin .shl (.cst (.int 1)) (.idx (.var 0) (.cst (.int 1))))], true⟩
def f_counter_readers : Fn := ⟨2, 2, [], [.ite (.cmp .eq (.idx (.var 0) (.cst (.int 0))) (.cst (.str "secret")))
     [.ret (.bin .shl (.cst (.int 1)) (.idx (.var 0) (.cst (.int 2))))]
     [],
   .ret (.call "everybody" [.var 1])], true⟩
def f_seat_of : Fn := ⟨4, 4, [], [.ite (.cmp .eq (.var 0) (.cst (.str "that")))
     [.ret (.var 2)]
     [],
   .ret (.bin .mod (.bin .add (.var 1) (.var 0)) (.var 3))], true⟩
def f_place_of : Fn := ⟨4, 4, [], [.ite (.cmp .eq (.blt false .len [.var 0]) (.cst (.int 1)))
     [.ret (.var 0)]
     [],
   .ret (.tup [.idx (.var 0) (.cst (.int 0)), .call "seat_of" [.idx (.var 0) (.cst (.int 1)), .var 1, .var 2, .var 3]])], true⟩
def f_name_of : Fn := ⟨4, 4, [], [.ite (.cmp .eq (.blt false .len [.var 0]) (.cst (.int 2)))
     [.ret (.var 0)]
     [],
   .ret (.tup [.idx (.var 0) (.cst (.int 0)), .idx (.var 0) (.cst (.int 1)), .call "seat_of" [.idx (.var 0) (.cst (.int 2)), .var 1, .var 2, .var 3]])], true⟩
def f_label_of_zone : Fn := ⟨3, 3, [], [.ret (.call "readers" [.call "place_of" [.var 0, .cst (.int 0), .var 1, .var 2], .var 2])], true⟩
def f_label_of_counter : Fn := ⟨3, 3, [], [.ret (.call "counter_readers" [.call "name_of" [.var 0, .cst (.int 0), .var 1, .var 2], .var 2])], true⟩
def f_label_of_expression : Fn := ⟨4, 7, [], [.ite (.cmp .eq (.idx (.var 0) (.cst (.int 0))) (.cst (.str "var")))
     [.ret (.idx (.var 1) (.idx (.var 0) (.cst (.int 1))))]
     [],
   .asg (.nm 4) (.call "everybody" [.var 3]),
   .ite (.cmp .eq (.idx (.var 0) (.cst (.int 0))) (.cst (.str "counter")))
     [.asg (.nm 4) (.call "label_of_counter" [.idx (.var 0) (.cst (.int 1)), .var 2, .var 3])]
     [.ite (.cmp .in_ (.idx (.var 0) (.cst (.int 0))) (.tup [.cst (.str "kind"), .cst (.str "worth"), .cst (.str "tally")]))
        [.asg (.nm 4) (.call "label_of_zone" [.idx (.var 0) (.cst (.int 1)), .var 2, .var 3])]
        []],
   .asg (.nm 5) (.idx (.glo "EXPRESSIONS") (.idx (.var 0) (.cst (.int 0)))),
   .for_ (.nm 6) (.rng [.blt false .len [.var 5]])
     [.ite (.cmp .eq (.idx (.var 5) (.var 6)) (.cst (.str "e")))
        [.asg (.nm 4) (.bin .band (.var 4) (.call "label_of_expression" [.idx (.var 0) (.bin .add (.var 6) (.cst (.int 1))), .var 1, .var 2, .var 3]))]
        []],
   .ret (.var 4)], true⟩
abbrev f__law_next : Fn := Mn.lawNext
def f__law_who : Fn := ⟨2, 3, [], [.asg (.nm 2) (.call "_law_next" [.var 0, .cst (.int 6)]),
   .ite (.cmp .gt (.var 2) (.cst (.int 3)))
     [.ret (.idx (.lst false [.cst (.str "that"), .bin .sub (.var 2) (.cst (.int 4))]) (.blt false .int [.not (.var 1)]))]
     [],
   .ret (.var 2)], true⟩
def f__law_zone : Fn := ⟨2, 3, [], [.asg (.nm 2) (.idx (.lst false [.cst (.str "hand"), .cst (.str "dark"), .cst (.str "row"), .cst (.str "heap"), .cst (.str "deck"), .cst (.str "hand"), .cst (.str "dark")]) (.call "_law_next" [.var 0, .cst (.int 7)])),
   .ite (.or (.cmp .eq (.var 2) (.cst (.str "deck"))) (.cmp .eq (.var 2) (.cst (.str "heap"))))
     [.ret (.tup [.var 2])]
     [],
   .ret (.tup [.var 2, .call "_law_who" [.var 0, .var 1]])], true⟩
def f__law_counter : Fn := ⟨2, 3, [], [.asg (.nm 2) (.idx (.lst false [.cst (.str "open"), .cst (.str "secret"), .cst (.str "common"), .cst (.str "secret")]) (.call "_law_next" [.var 0, .cst (.int 4)])),
   .ite (.cmp .eq (.var 2) (.cst (.str "common")))
     [.ret (.tup [.var 2, .call "_law_next" [.var 0, .cst (.int 2)]])]
     [],
   .ret (.tup [.var 2, .call "_law_next" [.var 0, .idx (.lst false [.cst (.int 2), .cst (.int 3)]) (.blt false .int [.cmp .eq (.var 2) (.cst (.str "open"))])], .call "_law_who" [.var 0, .var 1]])], true⟩
def f__law_to : Fn := ⟨2, 4, [], [.asg (.nm 2) (.comp false (.var 3) (.nm 3) (.rng [.cst (.int 4)]) [.cmp .eq (.call "_law_next" [.var 0, .cst (.int 3)]) (.cst (.int 0))]),
   .ite (.and (.var 1) (.cmp .eq (.call "_law_next" [.var 0, .cst (.int 2)]) (.cst (.int 0))))
     [.ret (.blt false .tuple [.bin .add (.var 2) (.lst false [.cst (.str "that")])])]
     [],
   .ite (.cmp .eq (.var 2) (.lst false []))
     [.asg (.nm 2) (.lst false [.call "_law_next" [.var 0, .cst (.int 4)]])]
     [],
   .ret (.blt false .tuple [.var 2])], true⟩
def f__law_number : Fn := ⟨1, 1, [], [.ret (.idx (.lst false [.bin .sub (.call "_law_next" [.var 0, .cst (.int 5)]) (.cst (.int 1)), .bin .sub (.call "_law_next" [.var 0, .cst (.int 60)]) (.cst (.int 30)), .idx (.lst false [.cst (.int 9999), .neg (.cst (.int 9999)), .cst (.int 5000), .neg (.cst (.int 1))]) (.call "_law_next" [.var 0, .cst (.int 4)])]) (.call "_law_next" [.var 0, .cst (.int 3)]))], true⟩
def f__law_leaf : Fn := ⟨2, 3, [], [.asg (.nm 2) (.call "_law_next" [.var 0, .cst (.int 9)]),
   .ite (.cmp .lt (.var 2) (.cst (.int 2)))
     [.ret (.tup [.cst (.str "int"), .call "_law_number" [.var 0]])]
     [],
   .ite (.cmp .lt (.var 2) (.cst (.int 4)))
     [.ret (.tup [.cst (.str "var"), .call "_law_next" [.var 0, .cst (.int 6)]])]
     [],
   .ite (.cmp .eq (.var 2) (.cst (.int 4)))
     [.ret (.tup [.cst (.str "seats")])]
     [],
   .ite (.cmp .lt (.var 2) (.cst (.int 7)))
     [.ret (.tup [.cst (.str "counter"), .call "_law_counter" [.var 0, .var 1]])]
     [],
   .ite (.cmp .eq (.var 2) (.cst (.int 7)))
     [.ret (.tup [.cst (.str "size"), .call "_law_zone" [.var 0, .var 1]])]
     [],
   .ret (.tup [.cst (.str "tally"), .call "_law_zone" [.var 0, .var 1], .call "_law_next" [.var 0, .cst (.int 4)]])], true⟩
def f__law_expression : Fn := ⟨3, 6, [], [.asg (.nm 3) (.call "_law_next" [.var 0, .cst (.int 16)]),
   .ite (.or (.cmp .eq (.var 2) (.cst (.int 0))) (.cmp .lt (.var 3) (.cst (.int 5))))
     [.ret (.call "_law_leaf" [.var 0, .var 1])]
     [],
   .ite (.cmp .lt (.var 3) (.cst (.int 9)))
     [.asg (.nm 4) (.idx (.lst false [.cst (.str "kind"), .cst (.str "worth")]) (.call "_law_next" [.var 0, .cst (.int 2)])),
      .ret (.tup [.var 4, .call "_law_zone" [.var 0, .var 1], .call "_law_expression" [.var 0, .var 1, .bin .sub (.var 2) (.cst (.int 1))]])]
     [],
   .ite (.cmp .eq (.var 3) (.cst (.int 9)))
     [.ret (.tup [.cst (.str "not"), .call "_law_expression" [.var 0, .var 1, .bin .sub (.var 2) (.cst (.int 1))]])]
     [],
   .ite (.cmp .eq (.var 3) (.cst (.int 10)))
     [.ret (.tup [.idx (.lst false [.cst (.str "div"), .cst (.str "mod")]) (.call "_law_next" [.var 0, .cst (.int 2)]), .call "_law_expression" [.var 0, .var 1, .bin .sub (.var 2) (.cst (.int 1))], .bin .add (.cst (.int 1)) (.call "_law_next" [.var 0, .cst (.int 9)])])]
     [],
   .asg (.nm 4) (.idx (.lst false [.cst (.str "add"), .cst (.str "sub"), .cst (.str "mul"), .cst (.str "min"), .cst (.str "max"), .cst (.str "less"), .cst (.str "same"), .cst (.str "both"), .cst (.str "either")]) (.call "_law_next" [.var 0, .cst (.int 9)])),
   .asg (.nm 5) (.call "_law_expression" [.var 0, .var 1, .bin .sub (.var 2) (.cst (.int 1))]),
   .ret (.tup [.var 4, .var 5, .call "_law_expression" [.var 0, .var 1, .bin .sub (.var 2) (.cst (.int 1))]])], true⟩
def f__law_plain : Fn := ⟨3, 6, [], [.ite (.cmp .lt (.var 2) (.cst (.int 3)))
     [.ret (.tup [.cst (.str "set"), .call "_law_next" [.var 0, .cst (.int 6)], .call "_law_expression" [.var 0, .var 1, .cst (.int 2)]])]
     [],
   .ite (.cmp .eq (.var 2) (.cst (.int 3)))
     [.ret (.tup [.cst (.str "count"), .call "_law_counter" [.var 0, .var 1], .call "_law_expression" [.var 0, .var 1, .cst (.int 2)]])]
     [],
   .ite (.cmp .eq (.var 2) (.cst (.int 4)))
     [.ret (.tup [.cst (.str "draw"), .call "_law_who" [.var 0, .var 1]])]
     [],
   .ite (.cmp .lt (.var 2) (.cst (.int 7)))
     [.asg (.nm 3) (.call "_law_expression" [.var 0, .var 1, .cst (.int 1)]),
      .ret (.tup [.cst (.str "move"), .call "_law_zone" [.var 0, .var 1], .var 3, .call "_law_zone" [.var 0, .var 1]])]
     [],
   .ite (.cmp .lt (.var 2) (.cst (.int 9)))
     [.asg (.nm 3) (.call "_law_expression" [.var 0, .var 1, .cst (.int 1)]),
      .asg (.nm 4) (.call "_law_zone" [.var 0, .var 1]),
      .ret (.tup [.cst (.str "swap"), .var 4, .var 3, .call "_law_zone" [.var 0, .var 1], .call "_law_expression" [.var 0, .var 1, .cst (.int 1)]])]
     [],
   .ite (.cmp .eq (.var 2) (.cst (.int 9)))
     [.ret (.tup [.cst (.str "tell"), .call "_law_to" [.var 0, .var 1], .call "_law_expression" [.var 0, .var 1, .cst (.int 2)]])]
     [],
   .ite (.cmp .eq (.var 2) (.cst (.int 10)))
     [.ret (.tup [.cst (.str "show"), .call "_law_next" [.var 0, .cst (.int 6)], .call "_law_to" [.var 0, .var 1], .call "_law_expression" [.var 0, .var 1, .cst (.int 2)]])]
     [],
   .ite (.cmp .eq (.var 2) (.cst (.int 11)))
     [.asg (.nm 5) (.bin .add (.cst (.int 2)) (.call "_law_next" [.var 0, .cst (.int 8)])),
      .ret (.tup [.cst (.str "ask"), .call "_law_next" [.var 0, .cst (.int 6)], .call "_law_who" [.var 0, .var 1], .var 5, .cmp .eq (.call "_law_next" [.var 0, .cst (.int 2)]) (.cst (.int 0))])]
     [],
   .ret (.tup [.cst (.str "skip")])], true⟩
def f__law_statement : Fn := ⟨3, 6, [], [.asg (.nm 3) (.call "_law_next" [.var 0, .cst (.int 18)]),
   .ite (.or (.cmp .eq (.var 2) (.cst (.int 0))) (.cmp .lt (.var 3) (.cst (.int 13))))
     [.ret (.call "_law_plain" [.var 0, .var 1, .call "_law_next" [.var 0, .cst (.int 13)]])]
     [],
   .ite (.cmp .lt (.var 3) (.cst (.int 16)))
     [.asg (.nm 4) (.call "_law_expression" [.var 0, .var 1, .cst (.int 1)]),
      .asg (.nm 5) (.call "_law_program" [.var 0, .var 1, .bin .sub (.var 2) (.cst (.int 1)), .cst (.int 3)]),
      .ret (.tup [.cst (.str "if"), .var 4, .var 5, .call "_law_program" [.var 0, .var 1, .bin .sub (.var 2) (.cst (.int 1)), .cst (.int 3)]])]
     [],
   .ite (.or (.cmp .eq (.var 3) (.cst (.int 16))) (.var 1))
     [.ret (.tup [.cst (.str "loop"), .bin .add (.cst (.int 1)) (.call "_law_next" [.var 0, .cst (.int 4)]), .call "_law_program" [.var 0, .var 1, .bin .sub (.var 2) (.cst (.int 1)), .cst (.int 3)]])]
     [],
   .ret (.tup [.cst (.str "seats"), .call "_law_program" [.var 0, .cst (.bl true), .bin .sub (.var 2) (.cst (.int 1)), .cst (.int 3)]])], true⟩
def f__law_program : Fn := ⟨4, 6, [], [.asg (.nm 4) (.lst true []),
   .for_ (.nm 5) (.rng [.call "_law_next" [.var 0, .var 3]])
     [.expr (.bm .append (.var 4) [.call "_law_statement" [.var 0, .var 1, .var 2]])],
   .ret (.blt false .tuple [.var 4])], true⟩
def f__law_all : Fn := ⟨1, 1, [], [.ret (.idx (.lst false [.cst (.int 0), .cst (.int 1), .cst (.int 3), .cst (.int 7), .cst (.int 15)]) (.var 0))], true⟩
def f__law_bits : Fn := ⟨1, 2, [], [.ret (.blt false .sum [.comp false (.idx (.lst false [.cst (.int 1), .cst (.int 2), .cst (.int 4), .cst (.int 8)]) (.var 1)) (.nm 1) (.rng [.cst (.int 4)]) [.cmp .in_ (.var 1) (.var 0)]])], true⟩
def f__law_turned : Fn := ⟨3, 3, [], [.ite (.cmp .eq (.var 0) (.cst (.str "that")))
     [.ret (.var 1)]
     [],
   .ret (.bin .mod (.blt false .int [.var 0]) (.var 2))], true⟩
def f__law_zone_label : Fn := ⟨3, 3, [], [.ite (.cmp .eq (.idx (.var 0) (.cst (.int 0))) (.cst (.str "deck")))
     [.ret (.cst (.int 0))]
     [],
   .ite (.or (.cmp .eq (.idx (.var 0) (.cst (.int 0))) (.cst (.str "heap"))) (.cmp .eq (.idx (.var 0) (.cst (.int 0))) (.cst (.str "row"))))
     [.ret (.call "_law_all" [.var 2])]
     [],
   .ret (.call "_law_bits" [.lst false [.call "_law_turned" [.idx (.var 0) (.cst (.int 1)), .var 1, .var 2]]])], true⟩
def f__law_counter_label : Fn := ⟨3, 3, [], [.ite (.cmp .eq (.idx (.var 0) (.cst (.int 0))) (.cst (.str "secret")))
     [.ret (.call "_law_bits" [.lst false [.call "_law_turned" [.idx (.var 0) (.cst (.int 2)), .var 1, .var 2]]])]
     [],
   .ret (.call "_law_all" [.var 2])], true⟩
def f__law_to_label : Fn := ⟨3, 4, [], [.ret (.call "_law_bits" [.comp false (.call "_law_turned" [.var 3, .var 1, .var 2]) (.nm 3) (.of (.var 0)) []])], true⟩
def f__law_label : Fn := ⟨4, 6, [], [.asg (.nm 4) (.idx (.var 0) (.cst (.int 0))),
   .ite (.cmp .eq (.var 4) (.cst (.str "var")))
     [.ret (.idx (.var 1) (.idx (.var 0) (.cst (.int 1))))]
     [],
   .ite (.cmp .eq (.var 4) (.cst (.str "counter")))
     [.ret (.call "_law_counter_label" [.idx (.var 0) (.cst (.int 1)), .var 2, .var 3])]
     [],
   .ite (.cmp .eq (.var 4) (.cst (.str "tally")))
     [.ret (.call "_law_zone_label" [.idx (.var 0) (.cst (.int 1)), .var 2, .var 3])]
     [],
   .ite (.cmp .in_ (.var 4) (.lst false [.cst (.str "int"), .cst (.str "seats"), .cst (.str "size")]))
     [.ret (.call "_law_all" [.var 3])]
     [],
   .ite (.cmp .in_ (.var 4) (.lst false [.cst (.str "kind"), .cst (.str "worth")]))
     [.ret (.bin .band (.call "_law_zone_label" [.idx (.var 0) (.cst (.int 1)), .var 2, .var 3]) (.call "_law_label" [.idx (.var 0) (.cst (.int 2)), .var 1, .var 2, .var 3]))]
     [],
   .asg (.nm 5) (.call "_law_label" [.idx (.var 0) (.cst (.int 1)), .var 1, .var 2, .var 3]),
   .ite (.cmp .in_ (.var 4) (.lst false [.cst (.str "not"), .cst (.str "div"), .cst (.str "mod")]))
     [.ret (.var 5)]
     [],
   .ret (.bin .band (.var 5) (.call "_law_label" [.idx (.var 0) (.cst (.int 2)), .var 1, .var 2, .var 3]))], true⟩
def f__law_in : Fn := ⟨2, 2, [], [.ret (.cmp .eq (.bin .band (.var 0) (.var 1)) (.var 0))], true⟩
def f_law : Fn := ⟨1, 14, [], [.asg (.nm 1) (.lst true [.blt false .list [.var 0], .cst (.int 0), .cst (.int 0), .cst (.int 71)]),
   .for_ (.nm 2) (.rng [.cst (.int 8)])
     [.asg (.nm 3) (.bin .add (.cst (.int 2)) (.call "_law_next" [.var 1, .cst (.int 3)])),
      .asg (.nm 4) (.call "_law_next" [.var 1, .var 3]),
      .asg (.nm 5) (.call "_law_expression" [.var 1, .cst (.bl true), .cst (.int 3)]),
      .asg (.nm 6) (.comp false (.call "_law_next" [.var 1, .bin .add (.cst (.int 1)) (.call "_law_all" [.var 3])]) (.nm 12) (.rng [.cst (.int 6)]) []),
      .asg (.nm 7) (.blt false .list [.var 6]),
      .asg (.nm 8) (.idx (.lst false [.var 6, .blt false .tuple [.var 6]]) (.call "_law_next" [.var 1, .cst (.int 2)])),
      .asg (.nm 9) (.call "label_of_expression" [.var 5, .var 8, .var 4, .var 3]),
      .ite (.or (.isi (.var 9) "bool") (.or (.cmp .ne (.var 9) (.call "_law_label" [.var 5, .var 7, .var 4, .var 3])) (.cmp .ne (.var 6) (.var 7))))
        [.ret (.cst (.bl false))]
        [],
      .asg (.nm 10) (.comp false (.bin .band (.var 13) (.call "_law_next" [.var 1, .cst (.int 16)])) (.nm 13) (.of (.var 6)) []),
      .asg (.nm 11) (.call "label_of_expression" [.var 5, .var 10, .var 4, .var 3]),
      .ite (.or (.cmp .ne (.var 11) (.call "_law_label" [.var 5, .var 10, .var 4, .var 3])) (.not (.call "_law_in" [.var 11, .var 9])))
        [.ret (.cst (.bl false))]
        []],
   .ret (.cst (.bl true))], true⟩
def k_EXPRESSIONS : Val := .kdct [("int", .str "n"), ("var", .str "v"), ("seats", .str ""), ("counter", .str "c"), ("size", .str "z"), ("kind", .str "ze"), ("worth", .str "ze"), ("tally", .str "zk"), ("add", .str "ee"), ("sub", .str "ee"), ("mul", .str "ee"), ("min", .str "ee"), ("max", .str "ee"), ("less", .str "ee"), ("same", .str "ee"), ("both", .str "ee"), ("either", .str "ee"), ("not", .str "e"), ("div", .str "ed"), ("mod", .str "ed")]
def top (i : Nat) : Stmt := PySem.Challenge.pw_handshidden_k19_labels_of_expressions.main.body.getD i (.Pass ⟨0, 0, 0, 0⟩)
def dLaw : Df := ⟨Str.ofString "", "law", "law", top 33, ["script", "tape", "turn", "seats", "that", "e", "labels", "kept", "given", "told", "lesser", "less", "k", "label"], ["script"], f_law⟩
def defs : List Df := ([⟨Str.ofString "", "everybody", "everybody", top 1, ["seats"], ["seats"], f_everybody⟩, ⟨Str.ofString "", "readers", "readers", top 2, ["place", "seats"], ["place", "seats"], f_readers⟩, ⟨Str.ofString "", "counter_readers", "counter_readers", top 3, ["name", "seats"], ["name", "seats"], f_counter_readers⟩, ⟨Str.ofString "", "seat_of", "seat_of", top 6, ["who", "me", "that", "seats"], ["who", "me", "that", "seats"], f_seat_of⟩, ⟨Str.ofString "", "place_of", "place_of", top 7, ["named", "me", "that", "seats"], ["named", "me", "that", "seats"], f_place_of⟩, ⟨Str.ofString "", "name_of", "name_of", top 8, ["named", "me", "that", "seats"], ["named", "me", "that", "seats"], f_name_of⟩, ⟨Str.ofString "", "label_of_zone", "label_of_zone", top 10, ["zone", "that", "seats"], ["zone", "that", "seats"], f_label_of_zone⟩, ⟨Str.ofString "", "label_of_counter", "label_of_counter", top 11, ["counter", "that", "seats"], ["counter", "that", "seats"], f_label_of_counter⟩, ⟨Str.ofString "", "label_of_expression", "label_of_expression", top 12, ["e", "labels", "that", "seats", "label", "letters", "k"], ["e", "labels", "that", "seats"], f_label_of_expression⟩, ⟨Str.ofString "", "_law_next", "_law_next", top 14, ["tape", "many", "rest", "cell", "mixed"], ["tape", "many"], f__law_next⟩, ⟨Str.ofString "", "_law_who", "_law_who", top 15, ["tape", "inside", "who"], ["tape", "inside"], f__law_who⟩, ⟨Str.ofString "", "_law_zone", "_law_zone", top 16, ["tape", "inside", "word"], ["tape", "inside"], f__law_zone⟩, ⟨Str.ofString "", "_law_counter", "_law_counter", top 17, ["tape", "inside", "word"], ["tape", "inside"], f__law_counter⟩, ⟨Str.ofString "", "_law_to", "_law_to", top 18, ["tape", "inside", "to", "who"], ["tape", "inside"], f__law_to⟩, ⟨Str.ofString "", "_law_number", "_law_number", top 19, ["tape"], ["tape"], f__law_number⟩, ⟨Str.ofString "", "_law_leaf", "_law_leaf", top 20, ["tape", "inside", "kind"], ["tape", "inside"], f__law_leaf⟩, ⟨Str.ofString "", "_law_expression", "_law_expression", top 21, ["tape", "inside", "depth", "kind", "word", "first"], ["tape", "inside", "depth"], f__law_expression⟩, ⟨Str.ofString "", "_law_plain", "_law_plain", top 22, ["tape", "inside", "kind", "at", "zone", "many"], ["tape", "inside", "kind"], f__law_plain⟩, ⟨Str.ofString "", "_law_statement", "_law_statement", top 23, ["tape", "inside", "depth", "kind", "test", "first"], ["tape", "inside", "depth"], f__law_statement⟩, ⟨Str.ofString "", "_law_program", "_law_program", top 24, ["tape", "inside", "depth", "many", "rows", "k"], ["tape", "inside", "depth", "many"], f__law_program⟩] : List Df) ++ ([⟨Str.ofString "", "_law_all", "_law_all", top 25, ["seats"], ["seats"], f__law_all⟩, ⟨Str.ofString "", "_law_bits", "_law_bits", top 26, ["row", "seat"], ["row"], f__law_bits⟩, ⟨Str.ofString "", "_law_turned", "_law_turned", top 27, ["who", "that", "seats"], ["who", "that", "seats"], f__law_turned⟩, ⟨Str.ofString "", "_law_zone_label", "_law_zone_label", top 28, ["zone", "that", "seats"], ["zone", "that", "seats"], f__law_zone_label⟩, ⟨Str.ofString "", "_law_counter_label", "_law_counter_label", top 29, ["counter", "that", "seats"], ["counter", "that", "seats"], f__law_counter_label⟩, ⟨Str.ofString "", "_law_to_label", "_law_to_label", top 30, ["to", "that", "seats", "who"], ["to", "that", "seats"], f__law_to_label⟩, ⟨Str.ofString "", "_law_label", "_law_label", top 31, ["e", "labels", "that", "seats", "word", "label"], ["e", "labels", "that", "seats"], f__law_label⟩, ⟨Str.ofString "", "_law_in", "_law_in", top 32, ["label", "other"], ["label", "other"], f__law_in⟩, dLaw] : List Df)
def txt : Lw := ⟨defs, [], (["abs", "bool", "int", "isinstance", "len", "list", "range", "sum", "tuple"] : List Str), [], ([("EXPRESSIONS", k_EXPRESSIONS)] : List (Str × Val))⟩
def DD : Defs := ([((Str.ofString "", Str.ofString "everybody"), f_everybody), ((Str.ofString "", Str.ofString "readers"), f_readers), ((Str.ofString "", Str.ofString "counter_readers"), f_counter_readers), ((Str.ofString "", Str.ofString "seat_of"), f_seat_of), ((Str.ofString "", Str.ofString "place_of"), f_place_of), ((Str.ofString "", Str.ofString "name_of"), f_name_of), ((Str.ofString "", Str.ofString "label_of_zone"), f_label_of_zone), ((Str.ofString "", Str.ofString "label_of_counter"), f_label_of_counter), ((Str.ofString "", Str.ofString "label_of_expression"), f_label_of_expression), ((Str.ofString "", Str.ofString "_law_next"), f__law_next), ((Str.ofString "", Str.ofString "_law_who"), f__law_who), ((Str.ofString "", Str.ofString "_law_zone"), f__law_zone), ((Str.ofString "", Str.ofString "_law_counter"), f__law_counter), ((Str.ofString "", Str.ofString "_law_to"), f__law_to), ((Str.ofString "", Str.ofString "_law_number"), f__law_number), ((Str.ofString "", Str.ofString "_law_leaf"), f__law_leaf), ((Str.ofString "", Str.ofString "_law_expression"), f__law_expression), ((Str.ofString "", Str.ofString "_law_plain"), f__law_plain), ((Str.ofString "", Str.ofString "_law_statement"), f__law_statement), ((Str.ofString "", Str.ofString "_law_program"), f__law_program)] : Defs) ++ ([((Str.ofString "", Str.ofString "_law_all"), f__law_all), ((Str.ofString "", Str.ofString "_law_bits"), f__law_bits), ((Str.ofString "", Str.ofString "_law_turned"), f__law_turned), ((Str.ofString "", Str.ofString "_law_zone_label"), f__law_zone_label), ((Str.ofString "", Str.ofString "_law_counter_label"), f__law_counter_label), ((Str.ofString "", Str.ofString "_law_to_label"), f__law_to_label), ((Str.ofString "", Str.ofString "_law_label"), f__law_label), ((Str.ofString "", Str.ofString "_law_in"), f__law_in), ((Str.ofString "", Str.ofString "law"), f_law)] : Defs)
def GG (x : Str) : Option Val := getF (([(Str.ofString "EXPRESSIONS", k_EXPRESSIONS)] : List (Str × Val))) x
theorem D_is : txt.D = DD := rfl
theorem G_is : txt.G = GG := rfl
theorem d_everybody : findFn DD (Str.ofString "") (Str.ofString "everybody") = some f_everybody := by kernel_rfl
theorem d_readers : findFn DD (Str.ofString "") (Str.ofString "readers") = some f_readers := by kernel_rfl
theorem d_counter_readers : findFn DD (Str.ofString "") (Str.ofString "counter_readers") = some f_counter_readers := by kernel_rfl
theorem d_seat_of : findFn DD (Str.ofString "") (Str.ofString "seat_of") = some f_seat_of := by kernel_rfl
theorem d_place_of : findFn DD (Str.ofString "") (Str.ofString "place_of") = some f_place_of := by kernel_rfl
theorem d_name_of : findFn DD (Str.ofString "") (Str.ofString "name_of") = some f_name_of := by kernel_rfl
theorem d_label_of_zone : findFn DD (Str.ofString "") (Str.ofString "label_of_zone") = some f_label_of_zone := by kernel_rfl
theorem d_label_of_counter : findFn DD (Str.ofString "") (Str.ofString "label_of_counter") = some f_label_of_counter := by kernel_rfl
theorem d_label_of_expression : findFn DD (Str.ofString "") (Str.ofString "label_of_expression") = some f_label_of_expression := by kernel_rfl
theorem d__law_next : findFn DD (Str.ofString "") (Str.ofString "_law_next") = some f__law_next := by kernel_rfl
theorem d__law_who : findFn DD (Str.ofString "") (Str.ofString "_law_who") = some f__law_who := by kernel_rfl
theorem d__law_zone : findFn DD (Str.ofString "") (Str.ofString "_law_zone") = some f__law_zone := by kernel_rfl
theorem d__law_counter : findFn DD (Str.ofString "") (Str.ofString "_law_counter") = some f__law_counter := by kernel_rfl
theorem d__law_to : findFn DD (Str.ofString "") (Str.ofString "_law_to") = some f__law_to := by kernel_rfl
theorem d__law_number : findFn DD (Str.ofString "") (Str.ofString "_law_number") = some f__law_number := by kernel_rfl
theorem d__law_leaf : findFn DD (Str.ofString "") (Str.ofString "_law_leaf") = some f__law_leaf := by kernel_rfl
theorem d__law_expression : findFn DD (Str.ofString "") (Str.ofString "_law_expression") = some f__law_expression := by kernel_rfl
theorem d__law_plain : findFn DD (Str.ofString "") (Str.ofString "_law_plain") = some f__law_plain := by kernel_rfl
theorem d__law_statement : findFn DD (Str.ofString "") (Str.ofString "_law_statement") = some f__law_statement := by kernel_rfl
theorem d__law_program : findFn DD (Str.ofString "") (Str.ofString "_law_program") = some f__law_program := by kernel_rfl
theorem d__law_all : findFn DD (Str.ofString "") (Str.ofString "_law_all") = some f__law_all := by kernel_rfl
theorem d__law_bits : findFn DD (Str.ofString "") (Str.ofString "_law_bits") = some f__law_bits := by kernel_rfl
theorem d__law_turned : findFn DD (Str.ofString "") (Str.ofString "_law_turned") = some f__law_turned := by kernel_rfl
theorem d__law_zone_label : findFn DD (Str.ofString "") (Str.ofString "_law_zone_label") = some f__law_zone_label := by kernel_rfl
theorem d__law_counter_label : findFn DD (Str.ofString "") (Str.ofString "_law_counter_label") = some f__law_counter_label := by kernel_rfl
theorem d__law_to_label : findFn DD (Str.ofString "") (Str.ofString "_law_to_label") = some f__law_to_label := by kernel_rfl
theorem d__law_label : findFn DD (Str.ofString "") (Str.ofString "_law_label") = some f__law_label := by kernel_rfl
theorem d__law_in : findFn DD (Str.ofString "") (Str.ofString "_law_in") = some f__law_in := by kernel_rfl
theorem d_law : findFn DD (Str.ofString "") (Str.ofString "law") = some f_law := by kernel_rfl
theorem g_EXPRESSIONS : GG (Str.ofString "EXPRESSIONS") = some k_EXPRESSIONS := by kernel_rfl
theorem lit_len0 : ("n" : String).length = 1 := by decide
theorem lit_ix0_0 {st : Store} : idxVal (.str (Str.ofString "n")) (.int 0) st = some (.str (Str.ofString "n")) := by kernel_rfl
theorem lit_len1 : ("v" : String).length = 1 := by decide
theorem lit_ix1_0 {st : Store} : idxVal (.str (Str.ofString "v")) (.int 0) st = some (.str (Str.ofString "v")) := by kernel_rfl
theorem lit_len2 : ("" : String).length = 0 := by decide
theorem lit_len3 : ("c" : String).length = 1 := by decide
theorem lit_ix3_0 {st : Store} : idxVal (.str (Str.ofString "c")) (.int 0) st = some (.str (Str.ofString "c")) := by kernel_rfl
theorem lit_len4 : ("z" : String).length = 1 := by decide
theorem lit_ix4_0 {st : Store} : idxVal (.str (Str.ofString "z")) (.int 0) st = some (.str (Str.ofString "z")) := by kernel_rfl
theorem lit_len5 : ("ze" : String).length = 2 := by decide
theorem lit_ix5_0 {st : Store} : idxVal (.str (Str.ofString "ze")) (.int 0) st = some (.str (Str.ofString "z")) := by kernel_rfl
theorem lit_ix5_1 {st : Store} : idxVal (.str (Str.ofString "ze")) (.int 1) st = some (.str (Str.ofString "e")) := by kernel_rfl
theorem lit_len6 : ("zk" : String).length = 2 := by decide
theorem lit_ix6_0 {st : Store} : idxVal (.str (Str.ofString "zk")) (.int 0) st = some (.str (Str.ofString "z")) := by kernel_rfl
theorem lit_ix6_1 {st : Store} : idxVal (.str (Str.ofString "zk")) (.int 1) st = some (.str (Str.ofString "k")) := by kernel_rfl
theorem lit_len7 : ("ee" : String).length = 2 := by decide
theorem lit_ix7_0 {st : Store} : idxVal (.str (Str.ofString "ee")) (.int 0) st = some (.str (Str.ofString "e")) := by kernel_rfl
theorem lit_ix7_1 {st : Store} : idxVal (.str (Str.ofString "ee")) (.int 1) st = some (.str (Str.ofString "e")) := by kernel_rfl
theorem lit_len8 : ("e" : String).length = 1 := by decide
theorem lit_ix8_0 {st : Store} : idxVal (.str (Str.ofString "e")) (.int 0) st = some (.str (Str.ofString "e")) := by kernel_rfl
theorem lit_len9 : ("ed" : String).length = 2 := by decide
theorem lit_ix9_0 {st : Store} : idxVal (.str (Str.ofString "ed")) (.int 0) st = some (.str (Str.ofString "e")) := by kernel_rfl
theorem lit_ix9_1 {st : Store} : idxVal (.str (Str.ofString "ed")) (.int 1) st = some (.str (Str.ofString "d")) := by kernel_rfl
theorem cl : Clo DD GG := by
  have h1 : (DD.all fun p => oldL 0 p.2.dfl) = true := by decide +kernel
  have h2 : ((([(Str.ofString "EXPRESSIONS", k_EXPRESSIONS)] : List (Str × Val)) : List (Str × Val)).all fun p => old 0 p.2) = true := by decide +kernel
  refine ⟨fun C f F h => ?_, fun x v h => List.all_eq_true.mp h2 (x, v) (getF_mem h)⟩
  have : ∀ D : Defs, (D.all fun p => oldL 0 p.2.dfl) = true → findFn D C f = some F → oldL 0 F.dfl = true := by
    intro D
    induction D with
    | nil => intro _ h; cases h
    | cons p D ih =>
      intro ha h
      rw [List.all_cons, Bool.and_eq_true] at ha
      obtain ⟨⟨C', f'⟩, F'⟩ := p
      unfold findFn at h
      split at h
      · cases h; exact ha.1
      · exact ih ha.2 h
  exact this DD h1 h
abbrev TT := Mn.TS
abbrev TP := tp
theorem TP_ok : TpOk TP := tp_ok
theorem next_w {n : Nat} {many : Int} {t : TT} {rest : Store} {Q : Val → Store → Prop} (hn : 1 ≤ n) (hm : 0 < many) (hm2 : many < 1073741824) (hr : WfR rest) (q : ∀ x t', 0 ≤ x → x < many → Q (.int x) (TP t' :: rest)) : wq (callFn DD GG n (Str.ofString "") (Str.ofString "_law_next") [.ref 0, .int many]) (TP t :: rest) Q :=
  next_gen d__law_next hm hm2 hn hr fun v t' ⟨x, e, h1, h2⟩ => by subst e; exact q x t' h1 h2
local macro_rules
  | `(tactic| tbr_iter [$as,*]) => `(tactic| simp -implicitDefEqProofs -dsimp only [Nat.zero_add, Nat.add_zero, Nat.reduceAdd, Nat.reduceSub, Nat.reduceMul, Nat.reduceLeDiff, Nat.lt_add_one, Nat.reduceEqDiff, Nat.reduceLT, Int.cast_ofNat_Int, Int.reduceAdd, Int.reduceNeg, Int.reduceMod, Int.reduceDiv, Int.reduceLT, Int.reduceLE, Int.reduceEq, Int.reduceMul, Int.reduceSub, Int.reduceToNat, Int.reducePow, Int.neg_neg, String.reduceEq, String.reduceAppend, ne_eq, not_false_eq_true, and_self, Nat.le_refl, Int.add_zero, Int.zero_add, Mn.str_inj', Mn.str_beq, Mn.str_append', Mn.str_length, Mn.dec_false, Mn.dec_true, Mn.ndec_true, Mn.ndec_false, Mn.x_some, Mn.x_none, Mn.x_eq, Mn.x_int, Mn.lg1, Mn.lg2, Mn.lg3, Mn.lg4, Mn.lg5, Mn.lg6, Mn.lg7, Mn.lg8, Mn.lg9, Mn.lg10, Mn.lg11, Mn.lg12, Mn.lg13, Mn.lg14, Mn.lg15, Mn.lg16, Mn.lg17, Mn.lg18, Mn.lg19, Mn.lg20, Mn.lg21, Mn.lg22, Mn.im_true, Mn.im_true', Mn.im_false, Mn.im_false', Mn.nb_true, Mn.nb_false, Mn.ob_some, Mn.ob_none, Mn.c2_t, Mn.c2_f, Mn.c2_d, Mn.c2_n, Mn.c2_and, Mn.c2_or, Mn.q_eq_int, Mn.q_ne_int, Mn.q_eq_bl, Mn.q_ne_bl, Mn.q_lt, Mn.q_gt, Mn.q_le, Mn.q_ge, Mn.q_eq_str, Mn.q_ne_str, Mn.q_is_non, Mn.q_isnot_non, Mn.q_is_bl, Mn.q_isnot_bl, Mn.n_int, Mn.n_bl, Mn.n_str, Mn.n_tup, Mn.n_lst, Mn.n_ref, Mn.n_non, Mn.q_in_tup, Mn.q_notin_tup, Mn.q_in_ktup, Mn.q_notin_ktup, Mn.q_in_lst, Mn.q_notin_lst, Mn.q_in_kdct, Mn.q_notin_kdct, Mn.ef_str, Mn.ef_int, Mn.fl_str, Mn.fl_int, Mn.fl_bl, Mn.fl_non, Mn.all_nil', Mn.all_cons', Mn.any_nil', Mn.any_cons', Mn.t_bl, Mn.t_int, Mn.t_non, Mn.t_tup, Mn.t_lst, Mn.o_add, Mn.o_sub, Mn.o_band, Mn.o_bor, Mn.o_mul, Mn.o_fdiv, Mn.o_mod, Mn.o_addT, Mn.o_addL, Mn.o_addS, Mn.au_int, Mn.i_tup, Mn.i_ktup, Mn.i_lst, Mn.i_klst, Mn.i_kdct, Mn.i_dct, Mn.at0, Mn.at1, Mn.at2, Mn.at3, Mn.at4, Mn.atm1, Mn.atm2, Mn.atm3, Mn.atm4, Mn.atm5, Mn.gf_nil, Mn.gf_cons, Mn.gk_nil, Mn.gk_str, Mn.b_len_lst, Mn.b_len_tup, Mn.b_len_ktup, Mn.b_len_klst, Mn.b_len_str, Mn.b_int, Mn.b_intb, Mn.b_abs, Mn.b_max, Mn.b_min, Mn.b_tupL, Mn.b_tupT, Mn.b_lstL, Mn.b_lstT, Mn.b_lstKL, Mn.b_sum, Mn.m_f, Mn.m_t, Mn.g_zero, Mn.g_succ, Mn.s_zero, Mn.s_succ, Mn.w_nil, Mn.w_cons, Mn.ts_nm, Mn.ts_nms, Mn.bt_nm, Mn.bt_nms, Mn.sa_nil, Mn.sa_cons, Mn.l_nil, Mn.l_cons, Mn.size_is, Mn.ty_non_int, Mn.ty_non_bool, Mn.ty_non_str, Mn.ty_non_tuple, Mn.ty_non_list, Mn.ty_non_dict, Mn.ty_bl_int, Mn.ty_bl_bool, Mn.ty_bl_str, Mn.ty_bl_tuple, Mn.ty_bl_list, Mn.ty_bl_dict, Mn.ty_int_int, Mn.ty_int_bool, Mn.ty_int_str, Mn.ty_int_tuple, Mn.ty_int_list, Mn.ty_int_dict, Mn.ty_str_int, Mn.ty_str_bool, Mn.ty_str_str, Mn.ty_str_tuple, Mn.ty_str_list, Mn.ty_str_dict, Mn.ty_tup_int, Mn.ty_tup_bool, Mn.ty_tup_str, Mn.ty_tup_tuple, Mn.ty_tup_list, Mn.ty_tup_dict, Mn.ty_lst_int, Mn.ty_lst_bool, Mn.ty_lst_str, Mn.ty_lst_tuple, Mn.ty_lst_list, Mn.ty_lst_dict, Mn.ty_dct_int, Mn.ty_dct_bool, Mn.ty_dct_str, Mn.ty_dct_tuple, Mn.ty_dct_list, Mn.ty_dct_dict, Mn.e_var, Mn.e_int, Mn.e_str, Mn.e_bl, Mn.e_non, Mn.e_nil, Mn.e_cons, Mn.e_tup, Mn.e_lst, Mn.e_bin, Mn.e_neg, Mn.e_not, Mn.e_cmp, Mn.e_chain, Mn.e_and, Mn.e_or, Mn.e_ite, Mn.e_idx, Mn.e_rev, Mn.e_fld, Mn.e_call, Mn.e_blt, Mn.e_isi, Mn.e_comp, Mn.e_comp2, Mn.e_of, Mn.e_rng, Mn.e_irev, Mn.e_t0, Mn.e_t1, Mn.e_slc, Mn.eo_none, Mn.eo_some, Mn.io_none, Mn.io_some, Mn.sl_tup, Mn.sl_lst, Mn.cm_v, Mn.cm_l, Mn.y_nil, Mn.y_cons, Mn.n_nxt, Mn.n_ret, Mn.n_brk, Mn.n_cnt, Mn.z_asg, Mn.z_aug, Mn.z_expr, Mn.z_ret, Mn.z_retN, Mn.z_ite, Mn.z_for, Mn.z_pass, Mn.z_brk, Mn.z_cnt, Mn.a_nm, Mn.a_tup, Mn.a_nil, Mn.a_cons, Mn.a_idx, Mn.a_fld, Mn.u_nm, Mn.sq_tup, Mn.sq_ktup, Mn.sq_lst, Mn.lo_lst, Mn.wq_tup, Mn.wq_ktup, Mn.wq_lst, Mn.wq_rng, Mn.wq_rng2, Mn.rv_zero, Mn.wi_items, Mn.wi_still, Mn.lq_nxt, Mn.lq_cnt, Mn.lq_brk, Mn.lq_ret, Mn.lf_nil, Mn.cl_nil, Mn.bnd, Mn.pur, Mn.ap_nil, Mn.ap_cons, Mn.ev_nil0, Mn.ev_nil, Mn.ev_cons, Mn.k_call, Mn.k_glob, Mn.e_glo, Mn.f_nxt, Mn.f_retc, Mn.se, Mn.wf_nil, Mn.oi, Mn.ob, Mn.os, Mn.on, Mn.ot, Mn.ol, Mn.okt, Mn.okl, Mn.oL0, Mn.oL1, Mn.oLi, Mn.old_ite, Mn.ite_same, Mn.q_eq_self, Mn.q_ne_self, Mn.qk_non_bl, Mn.qkn_non_bl, Mn.qk_non_int, Mn.qkn_non_int, Mn.qk_non_str, Mn.qkn_non_str, Mn.qk_bl_non, Mn.qkn_bl_non, Mn.qk_bl_str, Mn.qkn_bl_str, Mn.qk_int_non, Mn.qkn_int_non, Mn.qk_int_str, Mn.qkn_int_str, Mn.qk_str_non, Mn.qkn_str_non, Mn.qk_str_bl, Mn.qkn_str_bl, Mn.qk_str_int, Mn.qkn_str_int, Mn.qk_tup_non, Mn.qkn_tup_non, Mn.qk_non_tup, Mn.qkn_non_tup, Mn.qk_tup_bl, Mn.qkn_tup_bl, Mn.qk_bl_tup, Mn.qkn_bl_tup, Mn.qk_tup_int, Mn.qkn_tup_int, Mn.qk_int_tup, Mn.qkn_int_tup, Mn.qk_tup_str, Mn.qkn_tup_str, Mn.qk_str_tup, Mn.qkn_str_tup, Mn.qk_lst_non, Mn.qkn_lst_non, Mn.qk_non_lst, Mn.qkn_non_lst, Mn.qk_lst_bl, Mn.qkn_lst_bl, Mn.qk_bl_lst, Mn.qkn_bl_lst, Mn.qk_lst_int, Mn.qkn_lst_int, Mn.qk_int_lst, Mn.qkn_int_lst, Mn.qk_lst_str, Mn.qkn_lst_str, Mn.qk_str_lst, Mn.qkn_str_lst, Mn.dn, Mn.db, Mn.di, Mn.ds, Mn.dt, Mn.dl, Mn.dkt, Mn.dkl, Mn.dL0, Mn.dL1, Mn.and_tt, Mn.and_t, Mn.and_t', Mn.and_ff, Mn.or_t, Mn.or_f, Mn.dLi, Mn.at_if, Mn.wfr_nil, Mn.shape0, Mn.shape1, Mn.ft_ret, Mn.ft_ret1, Mn.ft_nxt, Mn.fl_ret, Mn.fl_nxt, Mn.tape0, Mn.q_eq_lnil, Mn.q_ne_lnil, Mn.rv1, Mn.rv2, Mn.rv3, Mn.rv4, Mn.at5, Mn.at6, Mn.at7, Mn.at8, Mn.at9, Mn.at10, Mn.at11, Mn.at12, Mn.at13, Mn.at14, Mn.at15, Mn.at16, Mn.at17, Mn.at18, Mn.at19, Mn.at20, Mn.at21, Mn.at22, Mn.at23, Mn.at24, Mn.at25, Mn.lO, Mn.dO, Mn.lO', Mn.dO', Mn.lO2, Mn.dO2, Mn.iO, Mn.lo_ref, Mn.sq_ref, Mn.do_ref, Mn.get0, Mn.getS, Mn.set0, Mn.setS, Mn.gl0, Mn.gl, Mn.sl0, Mn.sl, Mn.l_app, Mn.app_as, Mn.bk_app, Mn.bk_pop, Mn.bk_popAt, Mn.bk_ext, Mn.bk_clr, Mn.is_some', Mn.is_none', Mn.bk_kd1, Mn.bk_kd2, Mn.bm_append, Mn.bm_extend, Mn.bm_pop, Mn.ow_lst, Mn.ow_ref, Mn.b_tupR, Mn.e_bm, Mn.e_lrng, Mn.b_sumT, Mn.b_sumN, Mn.b_sum1, Mn.b_sum2, Mn.cut_last, Law.g_EXPRESSIONS, Law.lit_len0, Law.lit_ix0_0, Law.lit_len1, Law.lit_ix1_0, Law.lit_len2, Law.lit_len3, Law.lit_ix3_0, Law.lit_len4, Law.lit_ix4_0, Law.lit_len5, Law.lit_ix5_0, Law.lit_ix5_1, Law.lit_len6, Law.lit_ix6_0, Law.lit_ix6_1, Law.lit_len7, Law.lit_ix7_0, Law.lit_ix7_1, Law.lit_len8, Law.lit_ix8_0, Law.lit_len9, Law.lit_ix9_0, Law.lit_ix9_1, $[$as:term],*])
  | `(tactic| ktr_call [$as,*] $h:ident) => `(tactic| simp -implicitDefEqProofs -dsimp only [Nat.zero_add, Nat.add_zero, Nat.reduceAdd, Nat.reduceSub, Nat.reduceMul, Nat.reduceLeDiff, Nat.lt_add_one, Nat.reduceEqDiff, Nat.reduceLT, Int.cast_ofNat_Int, Int.reduceAdd, Int.reduceNeg, Int.reduceMod, Int.reduceDiv, Int.reduceLT, Int.reduceLE, Int.reduceEq, Int.reduceMul, Int.reduceSub, Int.reduceToNat, Int.reducePow, Int.neg_neg, String.reduceEq, String.reduceAppend, ne_eq, not_false_eq_true, and_self, Nat.le_refl, Int.add_zero, Int.zero_add, Mn.str_inj', Mn.str_beq, Mn.str_append', Mn.str_length, Mn.dec_false, Mn.dec_true, Mn.ndec_true, Mn.ndec_false, Mn.x_some, Mn.x_none, Mn.x_eq, Mn.x_int, Mn.lg1, Mn.lg2, Mn.lg3, Mn.lg4, Mn.lg5, Mn.lg6, Mn.lg7, Mn.lg8, Mn.lg9, Mn.lg10, Mn.lg11, Mn.lg12, Mn.lg13, Mn.lg14, Mn.lg15, Mn.lg16, Mn.lg17, Mn.lg18, Mn.lg19, Mn.lg20, Mn.lg21, Mn.lg22, Mn.im_true, Mn.im_true', Mn.im_false, Mn.im_false', Mn.nb_true, Mn.nb_false, Mn.ob_some, Mn.ob_none, Mn.c2_t, Mn.c2_f, Mn.c2_d, Mn.c2_n, Mn.c2_and, Mn.c2_or, Mn.q_eq_int, Mn.q_ne_int, Mn.q_eq_bl, Mn.q_ne_bl, Mn.q_lt, Mn.q_gt, Mn.q_le, Mn.q_ge, Mn.q_eq_str, Mn.q_ne_str, Mn.q_is_non, Mn.q_isnot_non, Mn.q_is_bl, Mn.q_isnot_bl, Mn.n_int, Mn.n_bl, Mn.n_str, Mn.n_tup, Mn.n_lst, Mn.n_ref, Mn.n_non, Mn.q_in_tup, Mn.q_notin_tup, Mn.q_in_ktup, Mn.q_notin_ktup, Mn.q_in_lst, Mn.q_notin_lst, Mn.q_in_kdct, Mn.q_notin_kdct, Mn.ef_str, Mn.ef_int, Mn.fl_str, Mn.fl_int, Mn.fl_bl, Mn.fl_non, Mn.all_nil', Mn.all_cons', Mn.any_nil', Mn.any_cons', Mn.t_bl, Mn.t_int, Mn.t_non, Mn.t_tup, Mn.t_lst, Mn.o_add, Mn.o_sub, Mn.o_band, Mn.o_bor, Mn.o_mul, Mn.o_fdiv, Mn.o_mod, Mn.o_addT, Mn.o_addL, Mn.o_addS, Mn.au_int, Mn.i_tup, Mn.i_ktup, Mn.i_lst, Mn.i_klst, Mn.i_kdct, Mn.i_dct, Mn.at0, Mn.at1, Mn.at2, Mn.at3, Mn.at4, Mn.atm1, Mn.atm2, Mn.atm3, Mn.atm4, Mn.atm5, Mn.gf_nil, Mn.gf_cons, Mn.gk_nil, Mn.gk_str, Mn.b_len_lst, Mn.b_len_tup, Mn.b_len_ktup, Mn.b_len_klst, Mn.b_len_str, Mn.b_int, Mn.b_intb, Mn.b_abs, Mn.b_max, Mn.b_min, Mn.b_tupL, Mn.b_tupT, Mn.b_lstL, Mn.b_lstT, Mn.b_lstKL, Mn.b_sum, Mn.m_f, Mn.m_t, Mn.g_zero, Mn.g_succ, Mn.s_zero, Mn.s_succ, Mn.w_nil, Mn.w_cons, Mn.ts_nm, Mn.ts_nms, Mn.bt_nm, Mn.bt_nms, Mn.sa_nil, Mn.sa_cons, Mn.l_nil, Mn.l_cons, Mn.size_is, Mn.ty_non_int, Mn.ty_non_bool, Mn.ty_non_str, Mn.ty_non_tuple, Mn.ty_non_list, Mn.ty_non_dict, Mn.ty_bl_int, Mn.ty_bl_bool, Mn.ty_bl_str, Mn.ty_bl_tuple, Mn.ty_bl_list, Mn.ty_bl_dict, Mn.ty_int_int, Mn.ty_int_bool, Mn.ty_int_str, Mn.ty_int_tuple, Mn.ty_int_list, Mn.ty_int_dict, Mn.ty_str_int, Mn.ty_str_bool, Mn.ty_str_str, Mn.ty_str_tuple, Mn.ty_str_list, Mn.ty_str_dict, Mn.ty_tup_int, Mn.ty_tup_bool, Mn.ty_tup_str, Mn.ty_tup_tuple, Mn.ty_tup_list, Mn.ty_tup_dict, Mn.ty_lst_int, Mn.ty_lst_bool, Mn.ty_lst_str, Mn.ty_lst_tuple, Mn.ty_lst_list, Mn.ty_lst_dict, Mn.ty_dct_int, Mn.ty_dct_bool, Mn.ty_dct_str, Mn.ty_dct_tuple, Mn.ty_dct_list, Mn.ty_dct_dict, Mn.e_var, Mn.e_int, Mn.e_str, Mn.e_bl, Mn.e_non, Mn.e_nil, Mn.e_cons, Mn.e_tup, Mn.e_lst, Mn.e_bin, Mn.e_neg, Mn.e_not, Mn.e_cmp, Mn.e_chain, Mn.e_and, Mn.e_or, Mn.e_ite, Mn.e_idx, Mn.e_rev, Mn.e_fld, Mn.e_call, Mn.e_blt, Mn.e_isi, Mn.e_comp, Mn.e_comp2, Mn.e_of, Mn.e_rng, Mn.e_irev, Mn.e_t0, Mn.e_t1, Mn.e_slc, Mn.eo_none, Mn.eo_some, Mn.io_none, Mn.io_some, Mn.sl_tup, Mn.sl_lst, Mn.cm_v, Mn.cm_l, Mn.y_nil, Mn.y_cons, Mn.n_nxt, Mn.n_ret, Mn.n_brk, Mn.n_cnt, Mn.z_asg, Mn.z_aug, Mn.z_expr, Mn.z_ret, Mn.z_retN, Mn.z_ite, Mn.z_for, Mn.z_pass, Mn.z_brk, Mn.z_cnt, Mn.a_nm, Mn.a_tup, Mn.a_nil, Mn.a_cons, Mn.a_idx, Mn.a_fld, Mn.u_nm, Mn.sq_tup, Mn.sq_ktup, Mn.sq_lst, Mn.lo_lst, Mn.wq_tup, Mn.wq_ktup, Mn.wq_lst, Mn.wq_rng, Mn.wq_rng2, Mn.rv_zero, Mn.wi_items, Mn.wi_still, Mn.lq_nxt, Mn.lq_cnt, Mn.lq_brk, Mn.lq_ret, Mn.lf_nil, Mn.cl_nil, Mn.bnd, Mn.pur, Mn.ap_nil, Mn.ap_cons, Mn.ev_nil0, Mn.ev_nil, Mn.ev_cons, Mn.k_call, Mn.k_glob, Mn.e_glo, Mn.f_nxt, Mn.f_retc, Mn.se, Mn.wf_nil, Mn.oi, Mn.ob, Mn.os, Mn.on, Mn.ot, Mn.ol, Mn.okt, Mn.okl, Mn.oL0, Mn.oL1, Mn.oLi, Mn.old_ite, Mn.ite_same, Mn.q_eq_self, Mn.q_ne_self, Mn.qk_non_bl, Mn.qkn_non_bl, Mn.qk_non_int, Mn.qkn_non_int, Mn.qk_non_str, Mn.qkn_non_str, Mn.qk_bl_non, Mn.qkn_bl_non, Mn.qk_bl_str, Mn.qkn_bl_str, Mn.qk_int_non, Mn.qkn_int_non, Mn.qk_int_str, Mn.qkn_int_str, Mn.qk_str_non, Mn.qkn_str_non, Mn.qk_str_bl, Mn.qkn_str_bl, Mn.qk_str_int, Mn.qkn_str_int, Mn.qk_tup_non, Mn.qkn_tup_non, Mn.qk_non_tup, Mn.qkn_non_tup, Mn.qk_tup_bl, Mn.qkn_tup_bl, Mn.qk_bl_tup, Mn.qkn_bl_tup, Mn.qk_tup_int, Mn.qkn_tup_int, Mn.qk_int_tup, Mn.qkn_int_tup, Mn.qk_tup_str, Mn.qkn_tup_str, Mn.qk_str_tup, Mn.qkn_str_tup, Mn.qk_lst_non, Mn.qkn_lst_non, Mn.qk_non_lst, Mn.qkn_non_lst, Mn.qk_lst_bl, Mn.qkn_lst_bl, Mn.qk_bl_lst, Mn.qkn_bl_lst, Mn.qk_lst_int, Mn.qkn_lst_int, Mn.qk_int_lst, Mn.qkn_int_lst, Mn.qk_lst_str, Mn.qkn_lst_str, Mn.qk_str_lst, Mn.qkn_str_lst, Mn.dn, Mn.db, Mn.di, Mn.ds, Mn.dt, Mn.dl, Mn.dkt, Mn.dkl, Mn.dL0, Mn.dL1, Mn.and_tt, Mn.and_t, Mn.and_t', Mn.and_ff, Mn.or_t, Mn.or_f, Mn.dLi, Mn.at_if, Mn.wfr_nil, Mn.shape0, Mn.shape1, Mn.ft_ret, Mn.ft_ret1, Mn.ft_nxt, Mn.fl_ret, Mn.fl_nxt, Mn.tape0, Mn.q_eq_lnil, Mn.q_ne_lnil, Mn.rv1, Mn.rv2, Mn.rv3, Mn.rv4, Mn.at5, Mn.at6, Mn.at7, Mn.at8, Mn.at9, Mn.at10, Mn.at11, Mn.at12, Mn.at13, Mn.at14, Mn.at15, Mn.at16, Mn.at17, Mn.at18, Mn.at19, Mn.at20, Mn.at21, Mn.at22, Mn.at23, Mn.at24, Mn.at25, Mn.lO, Mn.dO, Mn.lO', Mn.dO', Mn.lO2, Mn.dO2, Mn.iO, Mn.lo_ref, Mn.sq_ref, Mn.do_ref, Mn.get0, Mn.getS, Mn.set0, Mn.setS, Mn.gl0, Mn.gl, Mn.sl0, Mn.sl, Mn.l_app, Mn.app_as, Mn.bk_app, Mn.bk_pop, Mn.bk_popAt, Mn.bk_ext, Mn.bk_clr, Mn.is_some', Mn.is_none', Mn.bk_kd1, Mn.bk_kd2, Mn.bm_append, Mn.bm_extend, Mn.bm_pop, Mn.ow_lst, Mn.ow_ref, Mn.b_tupR, Mn.e_bm, Mn.e_lrng, Mn.b_sumT, Mn.b_sumN, Mn.b_sum1, Mn.b_sum2, Mn.cut_last, Law.g_EXPRESSIONS, Law.lit_len0, Law.lit_ix0_0, Law.lit_len1, Law.lit_ix1_0, Law.lit_len2, Law.lit_len3, Law.lit_ix3_0, Law.lit_len4, Law.lit_ix4_0, Law.lit_len5, Law.lit_ix5_0, Law.lit_ix5_1, Law.lit_len6, Law.lit_ix6_0, Law.lit_ix6_1, Law.lit_len7, Law.lit_ix7_0, Law.lit_ix7_1, Law.lit_len8, Law.lit_ix8_0, Law.lit_len9, Law.lit_ix9_0, Law.lit_ix9_1, $[$as:term],*] at $h:ident)
  | `(tactic| keq_rows) => `(tactic| simp -implicitDefEqProofs -dsimp only [*, Nat.zero_add, Nat.add_zero, Nat.reduceAdd, Nat.reduceSub, Nat.reduceMul, Nat.reduceLeDiff, Nat.lt_add_one, Nat.reduceEqDiff, Nat.reduceLT, Int.cast_ofNat_Int, Int.reduceAdd, Int.reduceNeg, Int.reduceMod, Int.reduceDiv, Int.reduceLT, Int.reduceLE, Int.reduceEq, Int.reduceMul, Int.reduceSub, Int.reduceToNat, Int.reducePow, Int.neg_neg, String.reduceEq, String.reduceAppend, ne_eq, not_false_eq_true, and_self, Nat.le_refl, Int.add_zero, Int.zero_add, Mn.str_inj', Mn.str_beq, Mn.str_append', Mn.str_length, Mn.dec_false, Mn.dec_true, Mn.ndec_true, Mn.ndec_false, Mn.x_some, Mn.x_none, Mn.x_eq, Mn.x_int, Mn.lg1, Mn.lg2, Mn.lg3, Mn.lg4, Mn.lg5, Mn.lg6, Mn.lg7, Mn.lg8, Mn.lg9, Mn.lg10, Mn.lg11, Mn.lg12, Mn.lg13, Mn.lg14, Mn.lg15, Mn.lg16, Mn.lg17, Mn.lg18, Mn.lg19, Mn.lg20, Mn.lg21, Mn.lg22, Mn.im_true, Mn.im_true', Mn.im_false, Mn.im_false', Mn.nb_true, Mn.nb_false, Mn.ob_some, Mn.ob_none, Mn.c2_t, Mn.c2_f, Mn.c2_d, Mn.c2_n, Mn.c2_and, Mn.c2_or, Mn.q_eq_int, Mn.q_ne_int, Mn.q_eq_bl, Mn.q_ne_bl, Mn.q_lt, Mn.q_gt, Mn.q_le, Mn.q_ge, Mn.q_eq_str, Mn.q_ne_str, Mn.q_is_non, Mn.q_isnot_non, Mn.q_is_bl, Mn.q_isnot_bl, Mn.n_int, Mn.n_bl, Mn.n_str, Mn.n_tup, Mn.n_lst, Mn.n_ref, Mn.n_non, Mn.q_in_tup, Mn.q_notin_tup, Mn.q_in_ktup, Mn.q_notin_ktup, Mn.q_in_lst, Mn.q_notin_lst, Mn.q_in_kdct, Mn.q_notin_kdct, Mn.ef_str, Mn.ef_int, Mn.fl_str, Mn.fl_int, Mn.fl_bl, Mn.fl_non, Mn.all_nil', Mn.all_cons', Mn.any_nil', Mn.any_cons', Mn.t_bl, Mn.t_int, Mn.t_non, Mn.t_tup, Mn.t_lst, Mn.o_add, Mn.o_sub, Mn.o_band, Mn.o_bor, Mn.o_mul, Mn.o_fdiv, Mn.o_mod, Mn.o_addT, Mn.o_addL, Mn.o_addS, Mn.au_int, Mn.i_tup, Mn.i_ktup, Mn.i_lst, Mn.i_klst, Mn.i_kdct, Mn.i_dct, Mn.at0, Mn.at1, Mn.at2, Mn.at3, Mn.at4, Mn.atm1, Mn.atm2, Mn.atm3, Mn.atm4, Mn.atm5, Mn.gf_nil, Mn.gf_cons, Mn.gk_nil, Mn.gk_str, Mn.b_len_lst, Mn.b_len_tup, Mn.b_len_ktup, Mn.b_len_klst, Mn.b_len_str, Mn.b_int, Mn.b_intb, Mn.b_abs, Mn.b_max, Mn.b_min, Mn.b_tupL, Mn.b_tupT, Mn.b_lstL, Mn.b_lstT, Mn.b_lstKL, Mn.b_sum, Mn.m_f, Mn.m_t, Mn.g_zero, Mn.g_succ, Mn.s_zero, Mn.s_succ, Mn.w_nil, Mn.w_cons, Mn.ts_nm, Mn.ts_nms, Mn.bt_nm, Mn.bt_nms, Mn.sa_nil, Mn.sa_cons, Mn.l_nil, Mn.l_cons, Mn.size_is, Mn.ty_non_int, Mn.ty_non_bool, Mn.ty_non_str, Mn.ty_non_tuple, Mn.ty_non_list, Mn.ty_non_dict, Mn.ty_bl_int, Mn.ty_bl_bool, Mn.ty_bl_str, Mn.ty_bl_tuple, Mn.ty_bl_list, Mn.ty_bl_dict, Mn.ty_int_int, Mn.ty_int_bool, Mn.ty_int_str, Mn.ty_int_tuple, Mn.ty_int_list, Mn.ty_int_dict, Mn.ty_str_int, Mn.ty_str_bool, Mn.ty_str_str, Mn.ty_str_tuple, Mn.ty_str_list, Mn.ty_str_dict, Mn.ty_tup_int, Mn.ty_tup_bool, Mn.ty_tup_str, Mn.ty_tup_tuple, Mn.ty_tup_list, Mn.ty_tup_dict, Mn.ty_lst_int, Mn.ty_lst_bool, Mn.ty_lst_str, Mn.ty_lst_tuple, Mn.ty_lst_list, Mn.ty_lst_dict, Mn.ty_dct_int, Mn.ty_dct_bool, Mn.ty_dct_str, Mn.ty_dct_tuple, Mn.ty_dct_list, Mn.ty_dct_dict, Mn.e_var, Mn.e_int, Mn.e_str, Mn.e_bl, Mn.e_non, Mn.e_nil, Mn.e_cons, Mn.e_tup, Mn.e_lst, Mn.e_bin, Mn.e_neg, Mn.e_not, Mn.e_cmp, Mn.e_chain, Mn.e_and, Mn.e_or, Mn.e_ite, Mn.e_idx, Mn.e_rev, Mn.e_fld, Mn.e_call, Mn.e_blt, Mn.e_isi, Mn.e_comp, Mn.e_comp2, Mn.e_of, Mn.e_rng, Mn.e_irev, Mn.e_t0, Mn.e_t1, Mn.e_slc, Mn.eo_none, Mn.eo_some, Mn.io_none, Mn.io_some, Mn.sl_tup, Mn.sl_lst, Mn.cm_v, Mn.cm_l, Mn.y_nil, Mn.y_cons, Mn.n_nxt, Mn.n_ret, Mn.n_brk, Mn.n_cnt, Mn.z_asg, Mn.z_aug, Mn.z_expr, Mn.z_ret, Mn.z_retN, Mn.z_ite, Mn.z_for, Mn.z_pass, Mn.z_brk, Mn.z_cnt, Mn.a_nm, Mn.a_tup, Mn.a_nil, Mn.a_cons, Mn.a_idx, Mn.a_fld, Mn.u_nm, Mn.sq_tup, Mn.sq_ktup, Mn.sq_lst, Mn.lo_lst, Mn.wq_tup, Mn.wq_ktup, Mn.wq_lst, Mn.wq_rng, Mn.wq_rng2, Mn.rv_zero, Mn.wi_items, Mn.wi_still, Mn.lq_nxt, Mn.lq_cnt, Mn.lq_brk, Mn.lq_ret, Mn.lf_nil, Mn.cl_nil, Mn.bnd, Mn.pur, Mn.ap_nil, Mn.ap_cons, Mn.ev_nil0, Mn.ev_nil, Mn.ev_cons, Mn.k_call, Mn.k_glob, Mn.e_glo, Mn.f_nxt, Mn.f_retc, Mn.se, Mn.wf_nil, Mn.oi, Mn.ob, Mn.os, Mn.on, Mn.ot, Mn.ol, Mn.okt, Mn.okl, Mn.oL0, Mn.oL1, Mn.oLi, Mn.old_ite, Mn.ite_same, Mn.q_eq_self, Mn.q_ne_self, Mn.qk_non_bl, Mn.qkn_non_bl, Mn.qk_non_int, Mn.qkn_non_int, Mn.qk_non_str, Mn.qkn_non_str, Mn.qk_bl_non, Mn.qkn_bl_non, Mn.qk_bl_str, Mn.qkn_bl_str, Mn.qk_int_non, Mn.qkn_int_non, Mn.qk_int_str, Mn.qkn_int_str, Mn.qk_str_non, Mn.qkn_str_non, Mn.qk_str_bl, Mn.qkn_str_bl, Mn.qk_str_int, Mn.qkn_str_int, Mn.qk_tup_non, Mn.qkn_tup_non, Mn.qk_non_tup, Mn.qkn_non_tup, Mn.qk_tup_bl, Mn.qkn_tup_bl, Mn.qk_bl_tup, Mn.qkn_bl_tup, Mn.qk_tup_int, Mn.qkn_tup_int, Mn.qk_int_tup, Mn.qkn_int_tup, Mn.qk_tup_str, Mn.qkn_tup_str, Mn.qk_str_tup, Mn.qkn_str_tup, Mn.qk_lst_non, Mn.qkn_lst_non, Mn.qk_non_lst, Mn.qkn_non_lst, Mn.qk_lst_bl, Mn.qkn_lst_bl, Mn.qk_bl_lst, Mn.qkn_bl_lst, Mn.qk_lst_int, Mn.qkn_lst_int, Mn.qk_int_lst, Mn.qkn_int_lst, Mn.qk_lst_str, Mn.qkn_lst_str, Mn.qk_str_lst, Mn.qkn_str_lst, Mn.dn, Mn.db, Mn.di, Mn.ds, Mn.dt, Mn.dl, Mn.dkt, Mn.dkl, Mn.dL0, Mn.dL1, Mn.and_tt, Mn.and_t, Mn.and_t', Mn.and_ff, Mn.or_t, Mn.or_f, Mn.dLi, Mn.at_if, Mn.wfr_nil, Mn.shape0, Mn.shape1, Mn.ft_ret, Mn.ft_ret1, Mn.ft_nxt, Mn.fl_ret, Mn.fl_nxt, Mn.tape0, Mn.q_eq_lnil, Mn.q_ne_lnil, Mn.rv1, Mn.rv2, Mn.rv3, Mn.rv4, Mn.at5, Mn.at6, Mn.at7, Mn.at8, Mn.at9, Mn.at10, Mn.at11, Mn.at12, Mn.at13, Mn.at14, Mn.at15, Mn.at16, Mn.at17, Mn.at18, Mn.at19, Mn.at20, Mn.at21, Mn.at22, Mn.at23, Mn.at24, Mn.at25, Mn.lO, Mn.dO, Mn.lO', Mn.dO', Mn.lO2, Mn.dO2, Mn.iO, Mn.lo_ref, Mn.sq_ref, Mn.do_ref, Mn.get0, Mn.getS, Mn.set0, Mn.setS, Mn.gl0, Mn.gl, Mn.sl0, Mn.sl, Mn.l_app, Mn.app_as, Mn.bk_app, Mn.bk_pop, Mn.bk_popAt, Mn.bk_ext, Mn.bk_clr, Mn.is_some', Mn.is_none', Mn.bk_kd1, Mn.bk_kd2, Mn.bm_append, Mn.bm_extend, Mn.bm_pop, Mn.ow_lst, Mn.ow_ref, Mn.b_tupR, Mn.e_bm, Mn.e_lrng, Mn.b_sumT, Mn.b_sumN, Mn.b_sum1, Mn.b_sum2, Mn.cut_last, Law.g_EXPRESSIONS, Law.lit_len0, Law.lit_ix0_0, Law.lit_len1, Law.lit_ix1_0, Law.lit_len2, Law.lit_len3, Law.lit_ix3_0, Law.lit_len4, Law.lit_ix4_0, Law.lit_len5, Law.lit_ix5_0, Law.lit_ix5_1, Law.lit_len6, Law.lit_ix6_0, Law.lit_ix6_1, Law.lit_len7, Law.lit_ix7_0, Law.lit_ix7_1, Law.lit_len8, Law.lit_ix8_0, Law.lit_len9, Law.lit_ix9_0, Law.lit_ix9_1])
/-! what the first family's helpers draw -/
def whosL : Bool → List Val
  | false => [.int 0, .int 1, .int 2, .int 3]
  | true => [.int 0, .int 1, .int 2, .int 3, .str (Str.ofString "that")]
def zonesL (b : Bool) : List Val := [.tup [.str (Str.ofString "deck")], .tup [.str (Str.ofString "heap")]] ++ (["hand", "dark", "row"].map fun z => (whosL b).map fun w => Val.tup [.str (Str.ofString z), w]).flatten
def countersL (b : Bool) : List Val := [.tup [.str (Str.ofString "common"), .int 0], .tup [.str (Str.ofString "common"), .int 1]] ++ (([("open", 0), ("open", 1), ("open", 2), ("secret", 0), ("secret", 1)] : List (String × Int)).map fun z => (whosL b).map fun w => Val.tup [.str (Str.ofString z.1), .int z.2, w]).flatten
def tosL : Bool → List Val
  | false => (subs (whosL false)).filter (fun l => !l.isEmpty) |>.map .tup
  | true => ((subs (whosL false)).filter (fun l => !l.isEmpty) ++ (subs (whosL false)).map (· ++ [.str (Str.ofString "that")])).map .tup
theorem _law_who_w {n : Nat} (hn : 2 ≤ n) {b : Bool} {t : TT} {rest : Store} (hr : WfR rest) {Q : Val → Store → Prop} (q : ∀ v t', (fun v => v ∈ whosL b) v → Q v (TP t' :: rest)) : wq (callFn DD GG n (Str.ofString "") (Str.ofString "_law_who") [.ref 0, .bl b]) (TP t :: rest) Q := by
  refine gen_w TP_ok d__law_who rfl rfl hn hr q fun m t rest hm hr => ?_
  tbr_iter [f__law_who]
  refine next_w hm (by decide) (by decide) hr fun x t x1 x2 => ?_
  cases b
  · rcases (show x = 0 ∨ x = 1 ∨ x = 2 ∨ x = 3 ∨ x = 4 ∨ x = 5 by omega) with rfl | rfl | rfl | rfl | rfl | rfl <;> tbr_iter [] <;> simp [whosL]
  · rcases (show x = 0 ∨ x = 1 ∨ x = 2 ∨ x = 3 ∨ x = 4 ∨ x = 5 by omega) with rfl | rfl | rfl | rfl | rfl | rfl <;> tbr_iter [] <;> simp [whosL]
theorem mem_zone {b : Bool} {z : String} (hz : z = "hand" ∨ z = "dark" ∨ z = "row") {w : Val} (h : w ∈ whosL b) : Val.tup [.str (Str.ofString z), w] ∈ zonesL b := by
  rcases hz with rfl | rfl | rfl <;> simp [zonesL, h]
theorem mem_ctr {b : Bool} {z : String} {k : Int} (hz : (z = "open" ∧ 0 ≤ k ∧ k < 3) ∨ (z = "secret" ∧ 0 ≤ k ∧ k < 2)) {w : Val} (h : w ∈ whosL b) : Val.tup [.str (Str.ofString z), .int k, w] ∈ countersL b := by
  rcases hz with ⟨rfl, h1, h2⟩ | ⟨rfl, h1, h2⟩
  · rcases (show k = 0 ∨ k = 1 ∨ k = 2 by omega) with rfl | rfl | rfl <;> simp [countersL, h]
  · rcases (show k = 0 ∨ k = 1 by omega) with rfl | rfl <;> simp [countersL, h]
theorem whos_old {b : Bool} {v : Val} (h : v ∈ whosL b) : old 0 v = true := by
  cases b <;> (simp [whosL] at h; rcases h with rfl | rfl | rfl | rfl | rfl <;> rfl)
theorem whos_dd {b : Bool} {v : Val} (h : v ∈ whosL b) {n : Nat} : dd n v = true := by
  cases b
  · simp [whosL] at h; rcases h with rfl | rfl | rfl | rfl <;> exact di
  · simp [whosL] at h; rcases h with rfl | rfl | rfl | rfl | rfl <;> first | exact di | exact ds
theorem _law_zone_w {n : Nat} (hn : 3 ≤ n) {b : Bool} {t : TT} {rest : Store} (hr : WfR rest) {Q : Val → Store → Prop} (q : ∀ v t', (fun v => v ∈ zonesL b) v → Q v (TP t' :: rest)) : wq (callFn DD GG n (Str.ofString "") (Str.ofString "_law_zone") [.ref 0, .bl b]) (TP t :: rest) Q := by
  refine gen_w TP_ok d__law_zone rfl rfl hn hr q fun m t rest hm hr => ?_
  tbr_iter [f__law_zone]
  refine next_w (by omega) (by decide) (by decide) hr fun x t x1 x2 => ?_
  rcases (show x = 0 ∨ x = 1 ∨ x = 2 ∨ x = 3 ∨ x = 4 ∨ x = 5 ∨ x = 6 by omega) with rfl | rfl | rfl | rfl | rfl | rfl | rfl <;> tbr_iter []
  case inr.inr.inr.inl => simp [zonesL]
  case inr.inr.inr.inr.inl => simp [zonesL]
  all_goals
    refine _law_who_w (by omega) hr fun v t hv => ?_
    have ho := whos_old hv
    tbr_iter [ho]
    exact mem_zone (by simp) hv
theorem _law_counter_w {n : Nat} (hn : 3 ≤ n) {b : Bool} {t : TT} {rest : Store} (hr : WfR rest) {Q : Val → Store → Prop} (q : ∀ v t', (fun v => v ∈ countersL b) v → Q v (TP t' :: rest)) : wq (callFn DD GG n (Str.ofString "") (Str.ofString "_law_counter") [.ref 0, .bl b]) (TP t :: rest) Q := by
  refine gen_w TP_ok d__law_counter rfl rfl hn hr q fun m t rest hm hr => ?_
  tbr_iter [f__law_counter]
  refine next_w (by omega) (by decide) (by decide) hr fun x t x1 x2 => ?_
  rcases (show x = 0 ∨ x = 1 ∨ x = 2 ∨ x = 3 by omega) with rfl | rfl | rfl | rfl <;> tbr_iter []
  case inr.inr.inl =>
    refine next_w (by omega) (by decide) (by decide) hr fun x t x1 x2 => ?_
    rcases (show x = 0 ∨ x = 1 by omega) with rfl | rfl <;> tbr_iter [] <;> simp [countersL]
  all_goals
    refine next_w (by omega) (by decide) (by decide) hr fun x t y1 y2 => ?_
    tbr_iter []
    refine _law_who_w (by omega) hr fun v t hv => ?_
    have ho := whos_old hv
    tbr_iter [ho]
    exact mem_ctr (by simp; omega) hv
theorem tos_old {b : Bool} {v : Val} (h : v ∈ tosL b) : old 0 v = true := by
  have : ∀ b : Bool, ((tosL b).all fun v => old 0 v) = true := by decide +kernel
  exact List.all_eq_true.mp (this b) v h
theorem subs_all {p : List Val → Bool} (l : List Val) (h : (subs l).all p = true) {ys : List Val} (hy : ys ∈ subs l) : p ys = true := List.all_eq_true.mp h ys hy
theorem _law_to_w {n : Nat} (hn : 2 ≤ n) {b : Bool} {t : TT} {rest : Store} (hr : WfR rest) {Q : Val → Store → Prop} (q : ∀ v t', (fun v => v ∈ tosL b) v → Q v (TP t' :: rest)) : wq (callFn DD GG n (Str.ofString "") (Str.ofString "_law_to") [.ref 0, .bl b]) (TP t :: rest) Q := by
  refine gen_w TP_ok d__law_to rfl rfl hn hr q fun m t rest hm hr => ?_
  tbr_iter [f__law_to]
  refine comp_sub_w (by simp) (fun x hx t Q q => ?_) fun ys t hy => ?_
  · tbr_iter []
    refine next_w (by omega) (by decide) (by decide) hr fun x t x1 x2 => ?_
    tbr_iter []
    exact q _ _
  have h1 : ys.length ≤ 4 := by simpa using subs_all (p := fun l => decide (l.length ≤ 4)) _ (by decide +kernel) hy
  have h2 : ddL 63 ys = true := subs_all (p := fun l => ddL 63 l) _ (by decide +kernel) hy
  have h3 : ys.length ≤ 16777216 := by omega
  have hw : [Val.int 0, .int 1, .int 2, .int 3] = whosL false := rfl
  rw [hw] at hy
  have t1 : ∀ b, ys ≠ [] → Val.tup ys ∈ tosL b := fun b hne => by
    cases b
    · exact List.mem_map_of_mem (List.mem_filter.mpr ⟨hy, by simpa using hne⟩)
    · exact List.mem_map_of_mem (List.mem_append_left _ (List.mem_filter.mpr ⟨hy, by simpa using hne⟩))
  have ho : oldL 0 ys = true := subs_all (p := fun l => oldL 0 l) _ (by decide +kernel) hy
  have last : ∀ b t, wq (execB (cf DD GG m) [.ite (.cmp .eq (.var 2) (.lst false [])) [.asg (.nm 2) (.lst false [.call "_law_next" [.var 0, .cst (.int 4)]])] [], .ret (.blt false .tuple [.var 2])] [some (.ref 0), some (.bl b), some (.lst ys), none]) (TP t :: rest) (finT TP rest fun v => v ∈ tosL b) := by
    intro b t
    tbr_iter [h2]
    refine cond2_i (fun hE => ?_) (fun hE => ?_)
    · tbr_iter []
      refine next_w (by omega) (by decide) (by decide) hr fun x t x1 x2 => ?_
      tbr_iter []
      have : ∀ b, Val.tup [.int 0] ∈ tosL b ∧ Val.tup [.int 1] ∈ tosL b ∧ Val.tup [.int 2] ∈ tosL b ∧ Val.tup [.int 3] ∈ tosL b := by decide +kernel
      obtain ⟨z0, z1, z2, z3⟩ := this b
      rcases (show x = 0 ∨ x = 1 ∨ x = 2 ∨ x = 3 by omega) with rfl | rfl | rfl | rfl <;> assumption
    · tbr_iter [ho]
      exact t1 b (by intro z; rw [z] at hE; cases hE)
  cases b
  · tbr_iter [h2, h3]
    have := last false t
    ktr_call [] this
    ktr_call [h2] this
    exact this
  · tbr_iter [h2, h3]
    refine next_w (by omega) (by decide) (by decide) hr fun x t x1 x2 => ?_
    tbr_iter []
    refine ⟨fun hx => ?_, fun hx => ?_⟩
    · refine ⟨by omega, ?_⟩
      tbr_iter [oldL_app, ho]
      exact List.mem_map_of_mem (List.mem_append_right _ (List.mem_map_of_mem hy))
    · have := last true t
      tbr_iter [h2]
      ktr_call [h2] this
      exact this

/-! what the first family's helpers draw: expressions -/
def opWords : List String := ["add", "sub", "mul", "min", "max", "less", "same", "both", "either"]
inductive PE where
  | int (n : Int) | var (k : Int) | seats | ctr (c : Val) | size (z : Val) | kind (z : Val) (e : PE) | worth (z : Val) (e : PE) | tally (z : Val) (k : Int)
  | op (w : String) (e f : PE) | not (e : PE) | div (e : PE) (n : Int) | mod (e : PE) (n : Int)
def S (x : String) : Val := .str (Str.ofString x)
def encE : PE → Val
  | .int n => .tup [.str (Str.ofString "int"), .int n]
  | .var k => .tup [.str (Str.ofString "var"), .int k]
  | .seats => .tup [.str (Str.ofString "seats")]
  | .ctr c => .tup [.str (Str.ofString "counter"), c]
  | .size z => .tup [.str (Str.ofString "size"), z]
  | .kind z e => .tup [.str (Str.ofString "kind"), z, encE e]
  | .worth z e => .tup [.str (Str.ofString "worth"), z, encE e]
  | .tally z k => .tup [.str (Str.ofString "tally"), z, .int k]
  | .op w e f => .tup [.str (Str.ofString w), encE e, encE f]
  | .not e => .tup [.str (Str.ofString "not"), encE e]
  | .div e n => .tup [.str (Str.ofString "div"), encE e, .int n]
  | .mod e n => .tup [.str (Str.ofString "mod"), encE e, .int n]
/-- a fitting expression -/
def WfE (b : Bool) : PE → Prop
  | .int n => -9999 ≤ n ∧ n ≤ 9999
  | .var k => 0 ≤ k ∧ k < 6
  | .seats => True
  | .ctr c => c ∈ countersL b
  | .size z => z ∈ zonesL b
  | .kind z e => z ∈ zonesL b ∧ WfE b e
  | .worth z e => z ∈ zonesL b ∧ WfE b e
  | .tally z k => z ∈ zonesL b ∧ 0 ≤ k ∧ k < 4
  | .op w e f => w ∈ opWords ∧ WfE b e ∧ WfE b f
  | .not e => WfE b e
  | .div e n => WfE b e ∧ 1 ≤ n ∧ n ≤ 9
  | .mod e n => WfE b e ∧ 1 ≤ n ∧ n ≤ 9
def depE : PE → Nat
  | .kind _ e => depE e + 1
  | .worth _ e => depE e + 1
  | .op _ e f => max (depE e) (depE f) + 1
  | .not e => depE e + 1
  | .div e _ => depE e + 1
  | .mod e _ => depE e + 1
  | .int _ => 1
  | .var _ => 1
  | .seats => 1
  | .ctr _ => 1
  | .size _ => 1
  | .tally _ _ => 1
theorem zones_old {b : Bool} {v : Val} (h : v ∈ zonesL b) : old 0 v = true := by
  have : ∀ b : Bool, ((zonesL b).all fun v => old 0 v) = true := by decide +kernel
  exact List.all_eq_true.mp (this b) v h
theorem ctrs_old {b : Bool} {v : Val} (h : v ∈ countersL b) : old 0 v = true := by
  have : ∀ b : Bool, ((countersL b).all fun v => old 0 v) = true := by decide +kernel
  exact List.all_eq_true.mp (this b) v h
theorem encE_old {b : Bool} : ∀ {e : PE}, WfE b e → old 0 (encE e) = true
  | .int n, _ => rfl
  | .var k, _ => rfl
  | .seats, _ => rfl
  | .ctr c, h => by simp [encE, old, oldL, ctrs_old h]
  | .size z, h => by simp [encE, old, oldL, zones_old h]
  | .kind z e, h => by simp [encE, old, oldL, zones_old h.1, encE_old h.2]
  | .worth z e, h => by simp [encE, old, oldL, zones_old h.1, encE_old h.2]
  | .tally z e, h => by simp [encE, old, oldL, zones_old h.1]
  | .op w e f, h => by simp [encE, old, oldL, encE_old h.2.1, encE_old h.2.2]
  | .not e, h => by simp [encE, old, oldL, encE_old (show WfE b e from h)]
  | .div e n, h => by simp [encE, old, oldL, encE_old h.1]
  | .mod e n, h => by simp [encE, old, oldL, encE_old h.1]
/-- an expression at most so deep -/
def IsE (b : Bool) (d : Nat) (v : Val) : Prop := ∃ e, v = encE e ∧ WfE b e ∧ depE e ≤ d
theorem _law_number_w {n : Nat} (hn : 2 ≤ n)  {t : TT} {rest : Store} (hr : WfR rest) {Q : Val → Store → Prop} (q : ∀ v t', (IntIn (-9999) 10000) v → Q v (TP t' :: rest)) : wq (callFn DD GG n (Str.ofString "") (Str.ofString "_law_number") [.ref 0]) (TP t :: rest) Q := by
  refine gen_w TP_ok d__law_number rfl rfl hn hr q fun m t rest hm hr => ?_
  tbr_iter [f__law_number]
  refine next_w hm (by decide) (by decide) hr fun x t x1 x2 => ?_
  tbr_iter []
  refine next_w hm (by decide) (by decide) hr fun y t y1 y2 => ?_
  tbr_iter []
  refine next_w hm (by decide) (by decide) hr fun z t z1 z2 => ?_
  tbr_iter []
  refine at_any z1 z2 fun v hv => ?_
  tbr_iter []
  refine next_w hm (by decide) (by decide) hr fun w t w1 w2 => ?_
  tbr_iter []
  refine at_any w1 w2 fun u hu => ?_
  simp only [List.mem_cons, List.not_mem_nil, or_false] at hu hv
  rcases hu with rfl | rfl | rfl
  · tbr_iter []; exact ⟨_, rfl, by omega, by omega⟩
  · tbr_iter []; exact ⟨_, rfl, by omega, by omega⟩
  · rcases hv with rfl | rfl | rfl | rfl <;> (tbr_iter []; exact ⟨_, rfl, by omega, by omega⟩)
theorem _law_leaf_w {n : Nat} (hn : 4 ≤ n) {b : Bool} {t : TT} {rest : Store} (hr : WfR rest) {Q : Val → Store → Prop} (q : ∀ v t', (IsE b 1) v → Q v (TP t' :: rest)) : wq (callFn DD GG n (Str.ofString "") (Str.ofString "_law_leaf") [.ref 0, .bl b]) (TP t :: rest) Q := by
  refine gen_w TP_ok d__law_leaf rfl rfl hn hr q fun m t rest hm hr => ?_
  tbr_iter [f__law_leaf]
  refine next_w (by omega) (by decide) (by decide) hr fun x t x1 x2 => ?_
  rcases (show x = 0 ∨ x = 1 ∨ x = 2 ∨ x = 3 ∨ x = 4 ∨ x = 5 ∨ x = 6 ∨ x = 7 ∨ x = 8 by omega) with rfl | rfl | rfl | rfl | rfl | rfl | rfl | rfl | rfl <;> tbr_iter []
  case inr.inr.inr.inr.inl => exact ⟨.seats, rfl, trivial, Nat.le_refl _⟩
  all_goals first
    | refine _law_number_w (by omega) hr fun v t ⟨a, e, h1, h2⟩ => ?_
      subst e
      tbr_iter []
      exact ⟨.int a, rfl, ⟨h1, by omega⟩, Nat.le_refl _⟩
    | refine next_w (by omega) (by decide) (by decide) hr fun k t k1 k2 => ?_
      tbr_iter []
      exact ⟨.var k, rfl, ⟨k1, k2⟩, Nat.le_refl _⟩
    | refine _law_counter_w (by omega) hr fun v t hv => ?_
      have ho := ctrs_old hv
      tbr_iter [ho]
      exact ⟨.ctr v, rfl, hv, Nat.le_refl _⟩
    | refine _law_zone_w (by omega) hr fun v t hv => ?_
      have ho := zones_old hv
      tbr_iter [ho]
      first
      | exact ⟨.size v, rfl, hv, Nat.le_refl _⟩
      | refine next_w (by omega) (by decide) (by decide) hr fun k t k1 k2 => ?_
        tbr_iter [ho]
        exact ⟨.tally v k, rfl, ⟨hv, k1, k2⟩, Nat.le_refl _⟩

theorem _law_expression_w : ∀ (d : Nat) {n : Nat} (hn : d + 5 ≤ n) {b : Bool} {t : TT} {rest : Store} (hr : WfR rest) {Q : Val → Store → Prop} (q : ∀ v t', IsE b (d + 1) v → Q v (TP t' :: rest)), wq (callFn DD GG n (Str.ofString "") (Str.ofString "_law_expression") [.ref 0, .bl b, .int (d : Int)]) (TP t :: rest) Q := by
  intro d
  induction d with
  | zero =>
    intro n hn b t rest hr Q q
    refine gen_w (k := 4) TP_ok d__law_expression rfl rfl hn hr q fun m t rest hm hr => ?_
    tbr_iter [f__law_expression]
    refine next_w (by omega) (by decide) (by decide) hr fun x t x1 x2 => ?_
    have h0 : ((0 : Nat) : Int) = 0 := rfl
    tbr_iter [h0]
    refine _law_leaf_w (by omega) hr fun v t ⟨e, he, hw, hd⟩ => ?_
    subst he
    tbr_iter [encE_old hw]
    exact ⟨e, rfl, hw, hd⟩
  | succ d ih =>
    intro n hn b t rest hr Q q
    refine gen_w (k := d + 5) TP_ok d__law_expression rfl rfl (by omega) hr q fun m t rest hm hr => ?_
    have h1 : ¬ ((d + 1 : Nat) : Int) = 0 := by omega
    have h2 : ((d + 1 : Nat) : Int) - 1 = (d : Int) := by omega
    have low : ∀ {e : PE}, depE e ≤ d + 1 → depE e ≤ d + 1 + 1 := fun h => by omega
    tbr_iter [f__law_expression]
    refine next_w (by omega) (by decide) (by decide) hr fun x t x1 x2 => ?_
    rcases (show x = 0 ∨ x = 1 ∨ x = 2 ∨ x = 3 ∨ x = 4 ∨ x = 5 ∨ x = 6 ∨ x = 7 ∨ x = 8 ∨ x = 9 ∨ x = 10 ∨ x = 11 ∨ x = 12 ∨ x = 13 ∨ x = 14 ∨ x = 15 by omega) with rfl | rfl | rfl | rfl | rfl | rfl | rfl | rfl | rfl | rfl | rfl | rfl | rfl | rfl | rfl | rfl <;> tbr_iter [h1, h2]
    all_goals first
      | refine _law_leaf_w (by omega) hr fun v t ⟨e, he, hw, hd⟩ => ?_
        subst he
        tbr_iter [encE_old hw]
        exact ⟨e, rfl, hw, by omega⟩
      | refine ih (by omega) hr fun v t ⟨e, he, hw, hd⟩ => ?_
        subst he
        tbr_iter [encE_old hw]
        exact ⟨.not e, rfl, hw, by simp only [depE]; omega⟩
      | refine next_w (by omega) (by decide) (by decide) hr fun y t y1 y2 => ?_
        rcases (show y = 0 ∨ y = 1 by omega) with rfl | rfl <;> tbr_iter [h1, h2]
        all_goals
          refine _law_zone_w (by omega) hr fun z t hz => ?_
          have ho := zones_old hz
          tbr_iter [h1, h2]
          refine ih (by omega) hr fun v t ⟨e, he, hw, hd⟩ => ?_
          subst he
          tbr_iter [encE_old hw, ho]
        · exact ⟨.kind z e, rfl, ⟨hz, hw⟩, by simp only [depE]; omega⟩
        · exact ⟨.worth z e, rfl, ⟨hz, hw⟩, by simp only [depE]; omega⟩
      | refine next_w (by omega) (by decide) (by decide) hr fun y t y1 y2 => ?_
        rcases (show y = 0 ∨ y = 1 by omega) with rfl | rfl <;> tbr_iter [h1, h2]
        all_goals
          refine ih (by omega) hr fun v t ⟨e, he, hw, hd⟩ => ?_
          subst he
          tbr_iter []
          refine next_w (by omega) (by decide) (by decide) hr fun y t y1 y2 => ?_
          tbr_iter [encE_old hw]
        · exact ⟨.div e _, rfl, ⟨hw, by omega, by omega⟩, by simp only [depE]; omega⟩
        · exact ⟨.mod e _, rfl, ⟨hw, by omega, by omega⟩, by simp only [depE]; omega⟩
      | refine next_w (by omega) (by decide) (by decide) hr fun y t y1 y2 => ?_
        tbr_iter []
        refine at_any y1 y2 fun w hw => ?_
        have hw : ∃ x ∈ opWords, w = .str (Str.ofString x) := by
          simp only [List.mem_cons, List.not_mem_nil, or_false] at hw
          rcases hw with rfl | rfl | rfl | rfl | rfl | rfl | rfl | rfl | rfl <;> exact ⟨_, by decide, rfl⟩
        obtain ⟨x, hx, rfl⟩ := hw
        tbr_iter [h1, h2]
        refine ih (by omega) hr fun v t ⟨e, he, hw, hd⟩ => ?_
        subst he
        tbr_iter [h1, h2]
        refine ih (by omega) hr fun v t ⟨f, he, hw2, hd2⟩ => ?_
        subst he
        tbr_iter [encE_old hw, encE_old hw2]
        exact ⟨.op x e f, rfl, ⟨hx, hw, hw2⟩, by simp only [depE]; omega⟩

/-! k19: labels of expressions -/
def pairsL : List (Int × Int) := [(2, 0), (2, 1), (3, 0), (3, 1), (3, 2), (4, 0), (4, 1), (4, 2), (4, 3)]
theorem mem_pair {s t : Int} (h : 0 ≤ s) (h2 : s < 3) (h3 : 0 ≤ t) (h4 : t < 2 + s) : (2 + s, t) ∈ pairsL := by
  rcases (show s = 0 ∨ s = 1 ∨ s = 2 by omega) with rfl | rfl | rfl
  · rcases (show t = 0 ∨ t = 1 by omega) with rfl | rfl <;> decide
  · rcases (show t = 0 ∨ t = 1 ∨ t = 2 by omega) with rfl | rfl | rfl <;> decide
  · rcases (show t = 0 ∨ t = 1 ∨ t = 2 ∨ t = 3 by omega) with rfl | rfl | rfl | rfl <;> decide
/-! bits -/
abbrev band (a b : Int) : Int := Builtin.bitAnd a b
def lows : List Int := [0, 1, 2, 3, 4, 5, 6, 7, 8, 9, 10, 11, 12, 13, 14, 15]
theorem mem_lows {a : Int} (h : 0 ≤ a) (h2 : a < 16) : a ∈ lows := by
  rcases (show a = 0 ∨ a = 1 ∨ a = 2 ∨ a = 3 ∨ a = 4 ∨ a = 5 ∨ a = 6 ∨ a = 7 ∨ a = 8 ∨ a = 9 ∨ a = 10 ∨ a = 11 ∨ a = 12 ∨ a = 13 ∨ a = 14 ∨ a = 15 by omega) with rfl | rfl | rfl | rfl | rfl | rfl | rfl | rfl | rfl | rfl | rfl | rfl | rfl | rfl | rfl | rfl <;> decide +kernel
def Low (a : Int) : Prop := a ∈ lows
theorem band_low {a b : Int} (h : Low a) (k : Low b) : Low (band a b) := by
  have : (lows.all fun a => lows.all fun b => lows.contains (band a b)) = true := by decide +kernel
  exact List.contains_iff_mem.mp (List.all_eq_true.mp (List.all_eq_true.mp this a h) b k)
theorem band_comm {a b : Int} (h : Low a) (k : Low b) : band a b = band b a := by
  have : (lows.all fun a => lows.all fun b => decide (band a b = band b a)) = true := by decide +kernel
  exact of_decide_eq_true (List.all_eq_true.mp (List.all_eq_true.mp this a h) b k)
theorem band_assoc {a b c : Int} (h : Low a) (k : Low b) (l : Low c) : band (band a b) c = band a (band b c) := by
  have : (lows.all fun a => lows.all fun b => lows.all fun c => decide (band (band a b) c = band a (band b c))) = true := by decide +kernel
  exact of_decide_eq_true (List.all_eq_true.mp (List.all_eq_true.mp (List.all_eq_true.mp this a h) b k) c l)
theorem band_self {a : Int} (h : Low a) : band a a = a := by
  have : (lows.all fun a => decide (band a a = a)) = true := by decide +kernel
  exact of_decide_eq_true (List.all_eq_true.mp this a h)
/-- a is within b -/
def Sub (a b : Int) : Prop := band a b = a
theorem sub_both {a b c d : Int} (ha : Low a) (hb : Low b) (hc : Low c) (hd : Low d) (h : Sub a c) (k : Sub b d) : Sub (band a b) (band c d) := by
  unfold Sub at *
  rw [band_assoc ha hb (band_low hc hd), ← band_assoc hb hc hd, band_comm hb hc, band_assoc hc hb hd, k, ← band_assoc ha hc hb, h]
theorem sub_self {a : Int} (ha : Low a) : Sub a a := band_self ha
theorem sub_and {a b : Int} (ha : Low a) (hb : Low b) : Sub (band a b) a := by
  unfold Sub
  rw [band_comm ha hb, band_assoc hb ha ha, band_self ha]
theorem sub_in {a b c : Int} (ha : Low a) (hb : Low b) (hc : Low c) (h : Sub a c) : Sub (band a b) c := by
  unfold Sub at *
  rw [band_comm ha hb, band_assoc hb ha hc, h]
/-! labels of zones and counters -/
def allI (s : Int) : Int := if s = 2 then 3 else if s = 3 then 7 else 15
def intOf (v : Val) : Int := match v with
  | .int i => i
  | _ => 0
def zl (p : Int × Int) (z : Val) : Int := intOf (resOf DD GG (Str.ofString "_law_zone_label") [z, .int p.2, .int p.1])
def ctl (p : Int × Int) (z : Val) : Int := intOf (resOf DD GG (Str.ofString "_law_counter_label") [z, .int p.2, .int p.1])
/-- a def of the program and one of the law come to the same label -/
def sameB (f g : Str) (vs ws : List Val) (all : Int) : Bool := okB DD GG f vs && (okB DD GG g ws && (decide (resOf DD GG f vs = resOf DD GG g ws) && match resOf DD GG f vs with
  | .int i => lows.contains i && decide (band i all = i)
  | _ => false))
theorem same_of {f g : Str} {vs ws : List Val} {all : Int} (h : sameB f g vs ws all = true) : okB DD GG f vs = true ∧ okB DD GG g ws = true ∧ resOf DD GG f vs = .int (intOf (resOf DD GG g ws)) ∧ resOf DD GG g ws = .int (intOf (resOf DD GG g ws)) ∧ Low (intOf (resOf DD GG g ws)) ∧ Sub (intOf (resOf DD GG g ws)) all := by
  unfold sameB at h
  rw [Bool.and_eq_true, Bool.and_eq_true, Bool.and_eq_true, decide_eq_true_eq] at h
  obtain ⟨h1, h2, h3, h4⟩ := h
  split at h4
  · rename_i i e
    rw [Bool.and_eq_true, decide_eq_true_eq] at h4
    have : resOf DD GG g ws = .int i := h3 ▸ e
    refine ⟨h1, h2, by rw [h3, this]; rfl, by rw [this]; rfl, by rw [this]; exact List.contains_iff_mem.mp h4.1, by rw [this]; exact h4.2⟩
  · cases h4
theorem zone_same : ∀ w ∈ zonesL true, ∀ p ∈ pairsL, sameB (Str.ofString "label_of_zone") (Str.ofString "_law_zone_label") [w, .int p.2, .int p.1] [w, .int p.2, .int p.1] (allI p.1) = true := by
  have : ((zonesL true).all fun w => pairsL.all fun p => sameB (Str.ofString "label_of_zone") (Str.ofString "_law_zone_label") [w, .int p.2, .int p.1] [w, .int p.2, .int p.1] (allI p.1)) = true := by decide +kernel
  exact fun w hw p hp => List.all_eq_true.mp (List.all_eq_true.mp this w hw) p hp
theorem ctr_same : ∀ w ∈ countersL true, ∀ p ∈ pairsL, sameB (Str.ofString "label_of_counter") (Str.ofString "_law_counter_label") [w, .int p.2, .int p.1] [w, .int p.2, .int p.1] (allI p.1) = true := by
  have : ((countersL true).all fun w => pairsL.all fun p => sameB (Str.ofString "label_of_counter") (Str.ofString "_law_counter_label") [w, .int p.2, .int p.1] [w, .int p.2, .int p.1] (allI p.1)) = true := by decide +kernel
  exact fun w hw p hp => List.all_eq_true.mp (List.all_eq_true.mp this w hw) p hp
theorem all_same : ∀ p ∈ pairsL, sameB (Str.ofString "everybody") (Str.ofString "_law_all") [.int p.1] [.int p.1] (allI p.1) = true ∧ intOf (resOf DD GG (Str.ofString "_law_all") [.int p.1]) = allI p.1 := by
  have : (pairsL.all fun p => sameB (Str.ofString "everybody") (Str.ofString "_law_all") [.int p.1] [.int p.1] (allI p.1) && decide (intOf (resOf DD GG (Str.ofString "_law_all") [.int p.1]) = allI p.1)) = true := by decide +kernel
  intro p hp
  have := List.all_eq_true.mp this p hp
  rwa [Bool.and_eq_true, decide_eq_true_eq] at this
/-- the label of an expression -/
def labE (p : Int × Int) (lf : Int → Int) : PE → Int
  | .var k => lf k
  | .ctr c => ctl p c
  | .tally z _ => zl p z
  | .kind z e => band (zl p z) (labE p lf e)
  | .worth z e => band (zl p z) (labE p lf e)
  | .op _ e f => band (labE p lf e) (labE p lf f)
  | .not e => labE p lf e
  | .div e _ => labE p lf e
  | .mod e _ => labE p lf e
  | .int _ => allI p.1
  | .seats => allI p.1
  | .size _ => allI p.1
theorem all_low {p : Int × Int} (hp : p ∈ pairsL) : Low (allI p.1) := by
  have := (all_same p hp).2
  rw [← this]
  exact (same_of (all_same p hp).1).2.2.2.2.1
/-- it is a label of these seats -/
theorem labE_low {p : Int × Int} (hp : p ∈ pairsL) {lf : Int → Int} (hl : ∀ k, 0 ≤ k → k < 6 → Low (lf k) ∧ Sub (lf k) (allI p.1)) : ∀ (e : PE), WfE true e → Low (labE p lf e) ∧ Sub (labE p lf e) (allI p.1) := by
  have ha := all_low hp
  have hz := fun z (h : z ∈ zonesL true) => (same_of (zone_same z h p hp)).2.2.2.2
  have hc := fun z (h : z ∈ countersL true) => (same_of (ctr_same z h p hp)).2.2.2.2
  intro e
  induction e with
  | var k => intro h; rw [WfE] at h; rw [labE]; exact hl k h.1 h.2
  | ctr c => intro h; rw [WfE] at h; rw [labE]; exact hc c h
  | tally z k => intro h; rw [WfE] at h; rw [labE]; exact hz z h.1
  | kind z e ih => intro h; rw [WfE] at h; rw [labE]; exact ⟨band_low (hz z h.1).1 (ih h.2).1, sub_in (hz z h.1).1 (ih h.2).1 ha (hz z h.1).2⟩
  | worth z e ih => intro h; rw [WfE] at h; rw [labE]; exact ⟨band_low (hz z h.1).1 (ih h.2).1, sub_in (hz z h.1).1 (ih h.2).1 ha (hz z h.1).2⟩
  | op w e f i1 i2 => intro h; rw [WfE] at h; rw [labE]; exact ⟨band_low (i1 h.2.1).1 (i2 h.2.2).1, sub_in (i1 h.2.1).1 (i2 h.2.2).1 ha (i1 h.2.1).2⟩
  | not e ih => intro h; rw [WfE] at h; rw [labE]; exact ih h
  | div e k ih => intro h; rw [WfE] at h; rw [labE]; exact ih h.1
  | mod e k ih => intro h; rw [WfE] at h; rw [labE]; exact ih h.1
  | _ => intro h; rw [labE]; exact ⟨ha, sub_self ha⟩
/-- lesser labels, a lesser label -/
theorem labE_sub {p : Int × Int} (hp : p ∈ pairsL) {lf lg : Int → Int} (hl : ∀ k, 0 ≤ k → k < 6 → Low (lf k) ∧ Sub (lf k) (allI p.1)) (hg : ∀ k, 0 ≤ k → k < 6 → Low (lg k) ∧ Sub (lg k) (allI p.1)) (hs : ∀ k, 0 ≤ k → k < 6 → Sub (lg k) (lf k)) : ∀ (e : PE), WfE true e → Sub (labE p lg e) (labE p lf e) := by
  have ha := all_low hp
  have hz := fun z (h : z ∈ zonesL true) => (same_of (zone_same z h p hp)).2.2.2.2
  have hc := fun z (h : z ∈ countersL true) => (same_of (ctr_same z h p hp)).2.2.2.2
  have l1 := fun e h => (labE_low hp hl e h).1
  have l2 := fun e h => (labE_low hp hg e h).1
  intro e
  induction e with
  | var k => intro h; rw [WfE] at h; rw [labE, labE]; exact hs k h.1 h.2
  | ctr c => intro h; rw [WfE] at h; rw [labE, labE]; exact sub_self (hc c h).1
  | tally z k => intro h; rw [WfE] at h; rw [labE, labE]; exact sub_self (hz z h.1).1
  | kind z e ih => intro h; rw [WfE] at h; rw [labE, labE]; exact sub_both (hz z h.1).1 (l2 _ h.2) (hz z h.1).1 (l1 _ h.2) (sub_self (hz z h.1).1) (ih h.2)
  | worth z e ih => intro h; rw [WfE] at h; rw [labE, labE]; exact sub_both (hz z h.1).1 (l2 _ h.2) (hz z h.1).1 (l1 _ h.2) (sub_self (hz z h.1).1) (ih h.2)
  | op w e f i1 i2 => intro h; rw [WfE] at h; rw [labE, labE]; exact sub_both (l2 _ h.2.1) (l2 _ h.2.2) (l1 _ h.2.1) (l1 _ h.2.2) (i1 h.2.1) (i2 h.2.2)
  | not e ih => intro h; rw [WfE] at h; rw [labE, labE]; exact ih h
  | div e k ih => intro h; rw [WfE] at h; rw [labE, labE]; exact ih h.1
  | mod e k ih => intro h; rw [WfE] at h; rw [labE, labE]; exact ih h.1
  | _ => intro h; rw [labE, labE]; exact sub_self ha

/-! the walks -/
theorem band_all {p : Int × Int} (hp : p ∈ pairsL) {x : Int} (h : Low x) (k : Sub x (allI p.1)) : band (allI p.1) x = x := by
  rw [band_comm (all_low hp) h]; exact k
def LabsOk (p : Int × Int) (lf : Int → Int) : Prop := ∀ k, 0 ≤ k → k < 6 → Low (lf k) ∧ Sub (lf k) (allI p.1)
def LabsAt (V : Val) (lf : Int → Int) : Prop := ∀ k, 0 ≤ k → k < 6 → ∀ st, idxVal V (.int k) st = some (.int (lf k))
theorem label_of_expression_wp {p : Int × Int} (hp : p ∈ pairsL) {V : Val} {lf : Int → Int} (hV : old 0 V = true) (hi : LabsAt V lf) (hl : LabsOk p lf) : ∀ (e : PE) (hw : WfE true e) {n : Nat} (hn : depE e + 21 ≤ n) {st : Store} (hs : Wf st) {Q : Val → Store → Prop}, wq (callFn DD GG n (Str.ofString "") (Str.ofString "label_of_expression") [encE e, V, .int p.2, .int p.1]) st Q ↔ Q (.int (labE p lf e)) st := by
  have low := fun e h => (labE_low hp hl e h)
  have z3 := fun z (h : z ∈ zonesL true) => same_of (zone_same z h p hp)
  have c3 := fun z (h : z ∈ countersL true) => same_of (ctr_same z h p hp)
  have a3 := (same_of (all_same p hp).1)
  rw [(all_same p hp).2] at a3
  have z4 : ∀ z, intOf (resOf DD GG (Str.ofString "_law_zone_label") [z, .int p.2, .int p.1]) = zl p z := fun _ => rfl
  have c4 : ∀ z, intOf (resOf DD GG (Str.ofString "_law_counter_label") [z, .int p.2, .int p.1]) = ctl p z := fun _ => rfl
  have z5 := fun z h => (show resOf DD GG (Str.ofString "_law_zone_label") [z, .int p.2, .int p.1] = .int (zl p z) from (z3 z h).2.2.2.1)
  have c5 := fun z h => (show resOf DD GG (Str.ofString "_law_counter_label") [z, .int p.2, .int p.1] = .int (ctl p z) from (c3 z h).2.2.2.1)
  intro e
  induction e with
  | kind z a ih =>
    intro hw n hn st hs Q
    refine pure_wp (k := depE a + 21) cl d_label_of_expression rfl rfl (by simp [oldL, encE_old hw, hV, old]) rfl hn hs ?_
    rw [WfE] at hw
    have zo := zones_old hw.1
    have i1 := fun {st : Store} (hs : Wf st) {Q : Val → Store → Prop} => ih hw.2 (n := depE a + 21) (by omega) hs (Q := Q)
    tbr_iter [f_label_of_expression, encE, k_EXPRESSIONS, labE, lf_cons, res_wp cl, a3.1, a3.2.2.1, (z3 z hw.1).1, (z3 z hw.1).2.2.1, z4, zo, i1]
  | op w a f iha ihf =>
    intro hw n hn st hs Q
    refine pure_wp (k := max (depE a) (depE f) + 21) cl d_label_of_expression rfl rfl (by simp [oldL, encE_old hw, hV, old]) rfl (by simp only [depE] at hn; omega) hs ?_
    rw [WfE] at hw
    have i1 := fun {st : Store} (hs : Wf st) {Q : Val → Store → Prop} => iha hw.2.1 (n := max (depE a) (depE f) + 21) (by omega) hs (Q := Q)
    have i2 := fun {st : Store} (hs : Wf st) {Q : Val → Store → Prop} => ihf hw.2.2 (n := max (depE a) (depE f) + 21) (by omega) hs (Q := Q)
    have b1 := band_all hp (low a hw.2.1).1 (low a hw.2.1).2
    have h1 := hw.1
    simp only [opWords, List.mem_cons, List.not_mem_nil, or_false] at h1
    rcases h1 with rfl | rfl | rfl | rfl | rfl | rfl | rfl | rfl | rfl <;> (tbr_iter [f_label_of_expression, encE, k_EXPRESSIONS, labE, lf_cons, res_wp cl, a3.1, a3.2.2.1, i1, i2, b1]; done)
  | not a ih =>
    intro hw n hn st hs Q
    refine pure_wp (k := depE a + 21) cl d_label_of_expression rfl rfl (by simp [oldL, encE_old hw, hV, old]) rfl hn hs ?_
    rw [WfE] at hw
    have i1 := fun {st : Store} (hs : Wf st) {Q : Val → Store → Prop} => ih hw (n := depE a + 21) (by omega) hs (Q := Q)
    have b1 := band_all hp (low a hw).1 (low a hw).2
    tbr_iter [f_label_of_expression, encE, k_EXPRESSIONS, labE, lf_cons, res_wp cl, a3.1, a3.2.2.1, i1, b1]
  | var k =>
    intro hw n hn st hs Q
    refine pure_wp (k := 19) cl d_label_of_expression rfl rfl (by simp [oldL, encE_old hw, hV, old]) rfl (by omega) hs ?_
    rw [WfE] at hw
    tbr_iter [f_label_of_expression, encE, labE, hi k hw.1 hw.2]
  | worth z a ih =>
    intro hw n hn st hs Q
    refine pure_wp (k := depE a + 21) cl d_label_of_expression rfl rfl (by simp [oldL, encE_old hw, hV, old]) rfl hn hs ?_
    rw [WfE] at hw
    have zo := zones_old hw.1
    have i1 := fun {st : Store} (hs : Wf st) {Q : Val → Store → Prop} => ih hw.2 (n := depE a + 21) (by omega) hs (Q := Q)
    tbr_iter [f_label_of_expression, encE, k_EXPRESSIONS, labE, lf_cons, res_wp cl, a3.1, a3.2.2.1, (z3 z hw.1).1, (z3 z hw.1).2.2.1, z4, zo, i1]
  | tally z k =>
    intro hw n hn st hs Q
    refine pure_wp (k := 20) cl d_label_of_expression rfl rfl (by simp [oldL, encE_old hw, hV, old]) rfl (by omega) hs ?_
    rw [WfE] at hw
    have zo := zones_old hw.1
    tbr_iter [f_label_of_expression, encE, k_EXPRESSIONS, labE, lf_cons, res_wp cl, a3.1, a3.2.2.1, (z3 z hw.1).1, (z3 z hw.1).2.2.1, z4, zo]
  | ctr z =>
    intro hw n hn st hs Q
    refine pure_wp (k := 20) cl d_label_of_expression rfl rfl (by simp [oldL, encE_old hw, hV, old]) rfl (by omega) hs ?_
    rw [WfE] at hw
    have zo := ctrs_old hw
    tbr_iter [f_label_of_expression, encE, k_EXPRESSIONS, labE, lf_cons, res_wp cl, a3.1, a3.2.2.1, (c3 z hw).1, (c3 z hw).2.2.1, c4, zo]
  | div a k ih =>
    intro hw n hn st hs Q
    refine pure_wp (k := depE a + 21) cl d_label_of_expression rfl rfl (by simp [oldL, encE_old hw, hV, old]) rfl hn hs ?_
    rw [WfE] at hw
    have i1 := fun {st : Store} (hs : Wf st) {Q : Val → Store → Prop} => ih hw.1 (n := depE a + 21) (by omega) hs (Q := Q)
    have b1 := band_all hp (low a hw.1).1 (low a hw.1).2
    tbr_iter [f_label_of_expression, encE, k_EXPRESSIONS, labE, lf_cons, res_wp cl, a3.1, a3.2.2.1, i1, b1]
  | mod a k ih =>
    intro hw n hn st hs Q
    refine pure_wp (k := depE a + 21) cl d_label_of_expression rfl rfl (by simp [oldL, encE_old hw, hV, old]) rfl hn hs ?_
    rw [WfE] at hw
    have i1 := fun {st : Store} (hs : Wf st) {Q : Val → Store → Prop} => ih hw.1 (n := depE a + 21) (by omega) hs (Q := Q)
    have b1 := band_all hp (low a hw.1).1 (low a hw.1).2
    tbr_iter [f_label_of_expression, encE, k_EXPRESSIONS, labE, lf_cons, res_wp cl, a3.1, a3.2.2.1, i1, b1]
  | _ =>
    intro hw n hn st hs Q
    refine pure_wp (k := 20) cl d_label_of_expression rfl rfl (by simp [oldL, encE_old hw, hV, old]) rfl (by omega) hs ?_
    tbr_iter [f_label_of_expression, encE, k_EXPRESSIONS, labE, lf_cons, res_wp cl, a3.1, a3.2.2.1]
theorem _law_label_wp {p : Int × Int} (hp : p ∈ pairsL) {V : Val} {lf : Int → Int} (hV : old 0 V = true) (hi : LabsAt V lf) (hl : LabsOk p lf) : ∀ (e : PE) (hw : WfE true e) {n : Nat} (hn : depE e + 21 ≤ n) {st : Store} (hs : Wf st) {Q : Val → Store → Prop}, wq (callFn DD GG n (Str.ofString "") (Str.ofString "_law_label") [encE e, V, .int p.2, .int p.1]) st Q ↔ Q (.int (labE p lf e)) st := by
  have low := fun e h => (labE_low hp hl e h)
  have z3 := fun z (h : z ∈ zonesL true) => same_of (zone_same z h p hp)
  have c3 := fun z (h : z ∈ countersL true) => same_of (ctr_same z h p hp)
  have a3 := (same_of (all_same p hp).1)
  rw [(all_same p hp).2] at a3
  have z4 : ∀ z, intOf (resOf DD GG (Str.ofString "_law_zone_label") [z, .int p.2, .int p.1]) = zl p z := fun _ => rfl
  have c4 : ∀ z, intOf (resOf DD GG (Str.ofString "_law_counter_label") [z, .int p.2, .int p.1]) = ctl p z := fun _ => rfl
  have z5 := fun z h => (show resOf DD GG (Str.ofString "_law_zone_label") [z, .int p.2, .int p.1] = .int (zl p z) from (z3 z h).2.2.2.1)
  have c5 := fun z h => (show resOf DD GG (Str.ofString "_law_counter_label") [z, .int p.2, .int p.1] = .int (ctl p z) from (c3 z h).2.2.2.1)
  intro e
  induction e with
  | kind z a ih =>
    intro hw n hn st hs Q
    refine pure_wp (k := depE a + 21) cl d__law_label rfl rfl (by simp [oldL, encE_old hw, hV, old]) rfl hn hs ?_
    rw [WfE] at hw
    have zo := zones_old hw.1
    have i1 := fun {st : Store} (hs : Wf st) {Q : Val → Store → Prop} => ih hw.2 (n := depE a + 21) (by omega) hs (Q := Q)
    tbr_iter [f__law_label, encE, labE, res_wp cl, a3.2.1, a3.2.2.2.1, (z3 z hw.1).2.1, z5 z hw.1, zo, i1]
  | op w a f iha ihf =>
    intro hw n hn st hs Q
    refine pure_wp (k := max (depE a) (depE f) + 21) cl d__law_label rfl rfl (by simp [oldL, encE_old hw, hV, old]) rfl (by simp only [depE] at hn; omega) hs ?_
    rw [WfE] at hw
    have i1 := fun {st : Store} (hs : Wf st) {Q : Val → Store → Prop} => iha hw.2.1 (n := max (depE a) (depE f) + 21) (by omega) hs (Q := Q)
    have i2 := fun {st : Store} (hs : Wf st) {Q : Val → Store → Prop} => ihf hw.2.2 (n := max (depE a) (depE f) + 21) (by omega) hs (Q := Q)
    have b1 := band_all hp (low a hw.2.1).1 (low a hw.2.1).2
    have h1 := hw.1
    simp only [opWords, List.mem_cons, List.not_mem_nil, or_false] at h1
    rcases h1 with rfl | rfl | rfl | rfl | rfl | rfl | rfl | rfl | rfl <;> (tbr_iter [f__law_label, encE, labE, res_wp cl, a3.2.1, a3.2.2.2.1, i1, i2, b1]; done)
  | not a ih =>
    intro hw n hn st hs Q
    refine pure_wp (k := depE a + 21) cl d__law_label rfl rfl (by simp [oldL, encE_old hw, hV, old]) rfl hn hs ?_
    rw [WfE] at hw
    have i1 := fun {st : Store} (hs : Wf st) {Q : Val → Store → Prop} => ih hw (n := depE a + 21) (by omega) hs (Q := Q)
    have b1 := band_all hp (low a hw).1 (low a hw).2
    tbr_iter [f__law_label, encE, labE, res_wp cl, a3.2.1, a3.2.2.2.1, i1, b1]
  | var k =>
    intro hw n hn st hs Q
    refine pure_wp (k := 19) cl d__law_label rfl rfl (by simp [oldL, encE_old hw, hV, old]) rfl (by omega) hs ?_
    rw [WfE] at hw
    tbr_iter [f__law_label, encE, labE, hi k hw.1 hw.2]
  | worth z a ih =>
    intro hw n hn st hs Q
    refine pure_wp (k := depE a + 21) cl d__law_label rfl rfl (by simp [oldL, encE_old hw, hV, old]) rfl hn hs ?_
    rw [WfE] at hw
    have zo := zones_old hw.1
    have i1 := fun {st : Store} (hs : Wf st) {Q : Val → Store → Prop} => ih hw.2 (n := depE a + 21) (by omega) hs (Q := Q)
    tbr_iter [f__law_label, encE, labE, res_wp cl, a3.2.1, a3.2.2.2.1, (z3 z hw.1).2.1, z5 z hw.1, zo, i1]
  | tally z k =>
    intro hw n hn st hs Q
    refine pure_wp (k := 20) cl d__law_label rfl rfl (by simp [oldL, encE_old hw, hV, old]) rfl (by omega) hs ?_
    rw [WfE] at hw
    have zo := zones_old hw.1
    tbr_iter [f__law_label, encE, labE, res_wp cl, a3.2.1, a3.2.2.2.1, (z3 z hw.1).2.1, z5 z hw.1, zo]
  | ctr z =>
    intro hw n hn st hs Q
    refine pure_wp (k := 20) cl d__law_label rfl rfl (by simp [oldL, encE_old hw, hV, old]) rfl (by omega) hs ?_
    rw [WfE] at hw
    have zo := ctrs_old hw
    tbr_iter [f__law_label, encE, labE, res_wp cl, a3.2.1, a3.2.2.2.1, (c3 z hw).2.1, c5 z hw, zo]
  | div a k ih =>
    intro hw n hn st hs Q
    refine pure_wp (k := depE a + 21) cl d__law_label rfl rfl (by simp [oldL, encE_old hw, hV, old]) rfl hn hs ?_
    rw [WfE] at hw
    have i1 := fun {st : Store} (hs : Wf st) {Q : Val → Store → Prop} => ih hw.1 (n := depE a + 21) (by omega) hs (Q := Q)
    have b1 := band_all hp (low a hw.1).1 (low a hw.1).2
    tbr_iter [f__law_label, encE, labE, res_wp cl, a3.2.1, a3.2.2.2.1, i1, b1]
  | mod a k ih =>
    intro hw n hn st hs Q
    refine pure_wp (k := depE a + 21) cl d__law_label rfl rfl (by simp [oldL, encE_old hw, hV, old]) rfl hn hs ?_
    rw [WfE] at hw
    have i1 := fun {st : Store} (hs : Wf st) {Q : Val → Store → Prop} => ih hw.1 (n := depE a + 21) (by omega) hs (Q := Q)
    have b1 := band_all hp (low a hw.1).1 (low a hw.1).2
    tbr_iter [f__law_label, encE, labE, res_wp cl, a3.2.1, a3.2.2.2.1, i1, b1]
  | _ =>
    intro hw n hn st hs Q
    refine pure_wp (k := 20) cl d__law_label rfl rfl (by simp [oldL, encE_old hw, hV, old]) rfl (by omega) hs ?_
    tbr_iter [f__law_label, encE, labE, res_wp cl, a3.2.1, a3.2.2.2.1]

/-! the law -/
def All2 (P : Val → Val → Prop) : List Val → List Val → Prop
  | [], [] => True
  | x :: l, y :: m => P x y ∧ All2 P l m
  | _, _ => False
theorem comp_gen_w {P : Val → Val → Prop} {c : Cf} {i : Nat} {elt : Ex} {items : List Val} {bk : Bool} {ρ : Mn.Env} {rest : Store} : ∀ {l : List Val} {t : TT} {Q : List Val → Store → Prop},
    (∀ x ∈ l, ∀ t (Q : Val → Store → Prop), (∀ v t', P x v → Q v (TP t' :: rest)) → wq (evalE c elt (ρ.set i (some x))) (TP t :: rest) Q) → (∀ ys t', All2 P l ys → Q ys (TP t' :: rest)) →
    wq (compLoop ⟨items, none, bk⟩ (.nm i) ρ (evalT c []) (fun ρ' => do let y ← evalE c elt ρ'; pure [y]) l) (TP t :: rest) Q
  | [], t, Q, _, q => cl_nil.mpr ⟨rfl, q [] t trivial⟩
  | x :: l, t, Q, h, q => by
    refine cl_cons.mpr ⟨rfl, _, rfl, ?_⟩
    refine wp_pure.mpr ⟨fun _ => ?_, fun h => by cases h⟩
    refine wp_bind.mpr (h x (List.mem_cons_self ..) t _ fun v t' hv => wp_pure.mpr ?_)
    exact comp_gen_w (fun y hy => h y (List.mem_cons_of_mem _ hy)) fun ys t2 hy => q (v :: ys) t2 ⟨hv, hy⟩
theorem all2_nil {P : Val → Val → Prop} : ∀ {ys : List Val}, All2 P [] ys → ys = []
  | [], _ => rfl
  | _ :: _, h => by cases h
theorem all2_cons {P : Val → Val → Prop} {x : Val} {l : List Val} : ∀ {ys : List Val}, All2 P (x :: l) ys → ∃ y m, ys = y :: m ∧ P x y ∧ All2 P l m
  | [], h => by cases h
  | y :: m, h => ⟨y, m, rfl, h⟩
theorem all_rng (s : Int) : 0 ≤ allI s ∧ allI s ≤ 15 := by
  unfold allI
  split <;> (try split) <;> decide
def lfn (a b c d e f : Int) (k : Int) : Int := if k = 0 then a else if k = 1 then b else if k = 2 then c else if k = 3 then d else if k = 4 then e else f
theorem at_lst {a b c d e f : Int} : LabsAt (.lst [.int a, .int b, .int c, .int d, .int e, .int f]) (lfn a b c d e f) := by
  intro k k1 k2 st
  rcases (show k = 0 ∨ k = 1 ∨ k = 2 ∨ k = 3 ∨ k = 4 ∨ k = 5 by omega) with rfl | rfl | rfl | rfl | rfl | rfl <;> rfl
theorem at_tup {a b c d e f : Int} : LabsAt (.tup [.int a, .int b, .int c, .int d, .int e, .int f]) (lfn a b c d e f) := by
  intro k k1 k2 st
  rcases (show k = 0 ∨ k = 1 ∨ k = 2 ∨ k = 3 ∨ k = 4 ∨ k = 5 by omega) with rfl | rfl | rfl | rfl | rfl | rfl <;> rfl
theorem lfn_all {P : Int → Prop} {a b c d e f : Int} (h0 : P a) (h1 : P b) (h2 : P c) (h3 : P d) (h4 : P e) (h5 : P f) : ∀ k, 0 ≤ k → k < 6 → P (lfn a b c d e f k) := by
  intro k k1 k2
  rcases (show k = 0 ∨ k = 1 ∨ k = 2 ∨ k = 3 ∨ k = 4 ∨ k = 5 by omega) with rfl | rfl | rfl | rfl | rfl | rfl <;> assumption
theorem lfn_sub {a b c d e f a' b' c' d' e' f' : Int} (h0 : Sub a' a) (h1 : Sub b' b) (h2 : Sub c' c) (h3 : Sub d' d) (h4 : Sub e' e) (h5 : Sub f' f) : ∀ k, 0 ≤ k → k < 6 → Sub (lfn a' b' c' d' e' f' k) (lfn a b c d e f k) := by
  intro k k1 k2
  rcases (show k = 0 ∨ k = 1 ∨ k = 2 ∨ k = 3 ∨ k = 4 ∨ k = 5 by omega) with rfl | rfl | rfl | rfl | rfl | rfl <;> assumption
theorem low_of {s a : Int} (hs : s ∈ ([2, 3, 4] : List Int)) (h : 0 ≤ a) (k : a < 1 + allI s) : Low a ∧ Sub a (allI s) := by
  have := all_rng s
  have hl := mem_lows h (by omega)
  have : (([2, 3, 4] : List Int).all fun s => lows.all fun a => decide (a < 1 + allI s → band a (allI s) = a)) = true := by decide +kernel
  exact ⟨hl, of_decide_eq_true (List.all_eq_true.mp (List.all_eq_true.mp this s hs) a hl) k⟩
def deep : Nat := 51
def loopB : List Sm := match f_law.body[1]? with
  | some (Sm.for_ _ _ b) => b
  | _ => []
theorem _law_in_wp {n : Nat} (hn : 1 ≤ n) {a b : Int} {st : Store} (hw : Wf st) {Q : Val → Store → Prop} : wq (callFn DD GG n (Str.ofString "") (Str.ofString "_law_in") [.int a, .int b]) st Q ↔ Q (.bl (decide (band a b = a))) st := by
  refine pure_wp cl d__law_in rfl rfl (by first | rfl | (tbr_iter []; done) | (keq_rows; done)) (by first | rfl | (tbr_iter []; done) | (keq_rows; done)) hn hw ?_
  tbr_iter [f__law_in, _law_in_wp]
theorem wf_t {t : TT} : Wf [TP t] := wf_tp TP_ok wfr_nil
theorem turn_ok {t : TT} {ρ : Mn.Env} (h : ∃ (a0 : Option Val) (a2 : Option Val) (a3 : Option Val) (a4 : Option Val) (a5 : Option Val) (a6 : Option Val) (a7 : Option Val) (a8 : Option Val) (a9 : Option Val) (a10 : Option Val) (a11 : Option Val) (a12 : Option Val) (a13 : Option Val), ρ = [a0, some (.ref 0), a2, a3, a4, a5, a6, a7, a8, a9, a10, a11, a12, a13]) {Q : Mn.Flow → Store → Prop} (q : ∀ t' ρ, (∃ (a0 : Option Val) (a2 : Option Val) (a3 : Option Val) (a4 : Option Val) (a5 : Option Val) (a6 : Option Val) (a7 : Option Val) (a8 : Option Val) (a9 : Option Val) (a10 : Option Val) (a11 : Option Val) (a12 : Option Val) (a13 : Option Val), ρ = [a0, some (.ref 0), a2, a3, a4, a5, a6, a7, a8, a9, a10, a11, a12, a13]) → Q (.nxt ρ) [TP t']) : wq (execB (cf DD GG 50) loopB ρ) [TP t] Q := by
  obtain ⟨a0, a2, a3, a4, a5, a6, a7, a8, a9, a10, a11, a12, a13, rfl⟩ := h
  simp only [loopB, f_law, List.getElem?_cons_succ, List.getElem?_cons_zero]
  tbr_iter [_law_in_wp]
  refine next_w (by decide) (by decide) (by decide) wfr_nil fun s t s1 s2 => ?_
  tbr_iter [_law_in_wp]
  refine next_w (by decide) (by omega) (by omega) wfr_nil fun th t th1 th2 => ?_
  tbr_iter [_law_in_wp]
  have hp := mem_pair s1 s2 th1 th2
  have hs3 : 2 + s ∈ ([2, 3, 4] : List Int) := by
    rcases (show s = 0 ∨ s = 1 ∨ s = 2 by omega) with rfl | rfl | rfl <;> decide
  have a3 := (same_of (all_same _ hp).1)
  rw [(all_same _ hp).2] at a3
  dsimp only at a3
  obtain ⟨a1, a2, a4, a5, a6, a7⟩ := a3
  have ar := all_rng (2 + s)
  refine _law_expression_w 3 (by decide) wfr_nil fun v t ⟨e, e1, he, de⟩ => ?_
  subst e1
  tbr_iter [_law_in_wp]
  refine comp_gen_w (P := fun _ v => ∃ i, v = .int i ∧ 0 ≤ i ∧ i < 1 + allI (2 + s)) (fun x hx t Q q => ?_) fun ys t hy => ?_
  · tbr_iter [res_wp cl, a2, a5, wf_t, _law_in_wp]
    refine next_w (by decide) (by omega) (by omega) wfr_nil fun v t v1 v2 => q _ _ ⟨v, rfl, v1, v2⟩
  rw [show rngVals 0 6 = [.int 0, .int 1, .int 2, .int 3, .int 4, .int 5] from rfl] at hy
  obtain ⟨_, _, rfl, ⟨l0, rfl, p0, q0⟩, hy1⟩ := all2_cons hy
  obtain ⟨_, _, rfl, ⟨l1, rfl, p1, q1⟩, hy2⟩ := all2_cons hy1
  obtain ⟨_, _, rfl, ⟨l2, rfl, p2, q2⟩, hy3⟩ := all2_cons hy2
  obtain ⟨_, _, rfl, ⟨l3, rfl, p3, q3⟩, hy4⟩ := all2_cons hy3
  obtain ⟨_, _, rfl, ⟨l4, rfl, p4, q4⟩, hy5⟩ := all2_cons hy4
  obtain ⟨_, _, rfl, ⟨l5, rfl, p5, q5⟩, hy6⟩ := all2_cons hy5
  cases all2_nil hy6
  have L0 := low_of hs3 p0 q0
  have L1 := low_of hs3 p1 q1
  have L2 := low_of hs3 p2 q2
  have L3 := low_of hs3 p3 q3
  have L4 := low_of hs3 p4 q4
  have L5 := low_of hs3 p5 q5
  have hl : LabsOk (2 + s, th) (lfn l0 l1 l2 l3 l4 l5) := lfn_all (P := fun a => Low a ∧ Sub a (allI (2 + s))) L0 L1 L2 L3 L4 L5
  clear hy hy1 hy2 hy3 hy4 hy5 hy6
  tbr_iter [_law_in_wp]
  refine next_w (by decide) (by decide) (by decide) wfr_nil fun g t g1 g2 => ?_
  tbr_iter [_law_in_wp]
  have i1 := fun {st : Store} (hs : Wf st) {Q : Val → Store → Prop} => label_of_expression_wp hp (V := .lst [.int l0, .int l1, .int l2, .int l3, .int l4, .int l5]) (by simp [old, oldL]) at_lst hl e he (n := 50) (by omega) hs (Q := Q)
  dsimp only at i1
  have i2 := fun {st : Store} (hs : Wf st) {Q : Val → Store → Prop} => label_of_expression_wp hp (V := .tup [.int l0, .int l1, .int l2, .int l3, .int l4, .int l5]) (by simp [old, oldL]) at_tup hl e he (n := 50) (by omega) hs (Q := Q)
  dsimp only at i2
  have i3 := fun {st : Store} (hs : Wf st) {Q : Val → Store → Prop} => _law_label_wp hp (V := .lst [.int l0, .int l1, .int l2, .int l3, .int l4, .int l5]) (by simp [old, oldL]) at_lst hl e he (n := 50) (by omega) hs (Q := Q)
  dsimp only at i3
  have ne : ∀ st, cmpVal .ne (.lst [.int l0, .int l1, .int l2, .int l3, .int l4, .int l5]) (.lst [.int l0, .int l1, .int l2, .int l3, .int l4, .int l5]) st = some false := fun st => q_ne_self (by simp [dd, ddL])
  rcases (show g = 0 ∨ g = 1 by omega) with rfl | rfl
  all_goals
    tbr_iter [i1, i2, i3, ne, wf_t, _law_in_wp]
    refine comp_gen_w (P := fun x v => ∃ j, v = .int (band (intOf x) j) ∧ 0 ≤ j ∧ j < 16) (fun x hx t Q q => ?_) fun ys t hy => ?_
    · simp only [List.mem_cons, List.not_mem_nil, or_false] at hx
      rcases hx with rfl | rfl | rfl | rfl | rfl | rfl
      all_goals
        tbr_iter [_law_in_wp]
        refine next_w (by decide) (by decide) (by decide) wfr_nil fun j t j1 j2 => ?_
        tbr_iter [_law_in_wp]
        exact q _ _ ⟨j, rfl, j1, j2⟩
    obtain ⟨_, _, rfl, ⟨m0, rfl, b0a, b0b⟩, hy1⟩ := all2_cons hy
    obtain ⟨_, _, rfl, ⟨m1, rfl, b1a, b1b⟩, hy2⟩ := all2_cons hy1
    obtain ⟨_, _, rfl, ⟨m2, rfl, b2a, b2b⟩, hy3⟩ := all2_cons hy2
    obtain ⟨_, _, rfl, ⟨m3, rfl, b3a, b3b⟩, hy4⟩ := all2_cons hy3
    obtain ⟨_, _, rfl, ⟨m4, rfl, b4a, b4b⟩, hy5⟩ := all2_cons hy4
    obtain ⟨_, _, rfl, ⟨m5, rfl, b5a, b5b⟩, hy6⟩ := all2_cons hy5
    cases all2_nil hy6
    clear hy hy1 hy2 hy3 hy4 hy5 hy6
    dsimp only [intOf]
    have M0 := mem_lows b0a b0b
    have M1 := mem_lows b1a b1b
    have M2 := mem_lows b2a b2b
    have M3 := mem_lows b3a b3b
    have M4 := mem_lows b4a b4b
    have M5 := mem_lows b5a b5b
    have hg : LabsOk (2 + s, th) (lfn (band l0 m0) (band l1 m1) (band l2 m2) (band l3 m3) (band l4 m4) (band l5 m5)) := lfn_all (P := fun a => Low a ∧ Sub a (allI (2 + s))) ⟨band_low L0.1 M0, sub_in L0.1 M0 a6 L0.2⟩ ⟨band_low L1.1 M1, sub_in L1.1 M1 a6 L1.2⟩ ⟨band_low L2.1 M2, sub_in L2.1 M2 a6 L2.2⟩ ⟨band_low L3.1 M3, sub_in L3.1 M3 a6 L3.2⟩ ⟨band_low L4.1 M4, sub_in L4.1 M4 a6 L4.2⟩ ⟨band_low L5.1 M5, sub_in L5.1 M5 a6 L5.2⟩
    have hsub := labE_sub hp hl hg (lfn_sub (sub_and L0.1 M0) (sub_and L1.1 M1) (sub_and L2.1 M2) (sub_and L3.1 M3) (sub_and L4.1 M4) (sub_and L5.1 M5)) e he
    have k1 := fun {st : Store} (hs : Wf st) {Q : Val → Store → Prop} => label_of_expression_wp hp (V := .lst [.int (band l0 m0), .int (band l1 m1), .int (band l2 m2), .int (band l3 m3), .int (band l4 m4), .int (band l5 m5)]) (by simp [old, oldL]) at_lst hg e he (n := 50) (by omega) hs (Q := Q)
    dsimp only at k1
    have k2 := fun {st : Store} (hs : Wf st) {Q : Val → Store → Prop} => _law_label_wp hp (V := .lst [.int (band l0 m0), .int (band l1 m1), .int (band l2 m2), .int (band l3 m3), .int (band l4 m4), .int (band l5 m5)]) (by simp [old, oldL]) at_lst hg e he (n := 50) (by omega) hs (Q := Q)
    dsimp only at k2
    tbr_iter [k1, k2, wf_t, _law_in_wp, _law_in_wp]
    unfold Sub at hsub
    rw [hsub]
    tbr_iter [_law_in_wp]
    exact q _ _ ⟨_, _, _, _, _, _, _, _, _, _, _, _, _, rfl⟩
theorem plain (ns : List Int) (hn : ns.length ≤ 63) : ∃ st, callFn txt.D txt.G deep (Str.ofString "") "law" [.klst (ns.map .int)] [] = .ok (.bl true) st := by
  rw [D_is, G_is]
  refine law_of (k := 50) d_law rfl rfl ?_
  tbr_iter [f_law, _law_in_wp]
  refine turns_w (P := fun ρ => ∃ (a0 : Option Val) (a2 : Option Val) (a3 : Option Val) (a4 : Option Val) (a5 : Option Val) (a6 : Option Val) (a7 : Option Val) (a8 : Option Val) (a9 : Option Val) (a10 : Option Val) (a11 : Option Val) (a12 : Option Val) (a13 : Option Val), ρ = [a0, some (.ref 0), a2, a3, a4, a5, a6, a7, a8, a9, a10, a11, a12, a13]) ⟨_, _, _, _, _, _, _, _, _, _, _, _, _, rfl⟩ ?_ (fun t ρ Q h q => turn_ok h q) ?_
  · rintro x ρ ⟨a0, a2, a3, a4, a5, a6, a7, a8, a9, a10, a11, a12, a13, rfl⟩
    exact ⟨_, _, _, _, _, _, _, _, _, _, _, _, _, rfl⟩
  · rintro t ρ ⟨a0, a2, a3, a4, a5, a6, a7, a8, a9, a10, a11, a12, a13, rfl⟩
    tbr_iter [_law_in_wp]

abbrev loose : List Str := (["everybody", "readers", "counter_readers", "EXPRESSIONS", "seat_of", "place_of", "name_of", "label_of_zone", "label_of_counter", "label_of_expression", "_law_next", "_law_who", "_law_zone", "_law_counter", "_law_to", "_law_number", "_law_leaf", "_law_expression", "_law_plain", "_law_statement", "_law_program", "_law_all", "_law_bits", "_law_turned", "_law_zone_label", "_law_counter_label", "_law_to_label", "_law_label", "_law_in"] : List Str)
abbrev R : PySem.W.OpenRow := PySem.W.OpenLaw.row PySem.Challenge.rw_handshidden_k19_labels_of_expressions
def ob (s : PySem.W.SharedT) : AlL := txt.obsG 5 (HandSHeadRun.getT s)
theorem ob_eq (s : PySem.W.SharedT) : ob s = (txt.hook 5).obs s.abs := txt.obsG_eq (HandSHeadRun.getT_eq s)
theorem run (w : World) : HandSHeadRun.RunEq R (PySem.W.view R.prog [33]) (txt.hook 5) ob 20000 loose w :=
  PySem.W.byRow2 "special-get-raises" (P := fun w => HandSHeadRun.RunEq R (PySem.W.view R.prog [33]) (txt.hook 5) ob 20000 loose w)
    (fun w => by intro os; kernel_rfl) (fun w => by intro os; kernel_rfl) w
theorem fits : txt.fitsAll := by
  have h : (defs.all fun d => d.fits txt.bl txt.fl) = true := by decide +kernel
  exact fun d hd => List.all_eq_true.mp h d hd
end Law
open PySem PySem.W PySem.Calls PyProof.Rows
theorem Law.endOf (plain : ∀ ns : List Int, ns.length ≤ 63 → ∃ st, Mn.callFn Law.txt.D Law.txt.G Law.deep (Str.ofString "") "law" [.klst (ns.map Mn.Val.int)] [] = .ok (.bl true) st) : PySem.Challenge.rw_handshidden_k19_labels_of_expressions.Holds := by
  w_on; o_law
  refine HandSHeadRun.head_any (r := Law.R) (q := view Law.R.prog [33]) (H := Law.txt.hook 5) (ob := Law.ob) (M := 20000) (loose := Law.loose) (d := HandSHeadRun.topDef Law.R.prog 33) (kwd := []) Law.ob_eq
    (by kernel_rfl) (fun s => by kernel_rfl) Law.run (by kernel_rfl) (by kernel_rfl) (by kernel_rfl) (by rfl) (by first | assumption | decide +kernel) (by decide +kernel) ⟨rfl, rfl, rfl, rfl, rfl, by decide +kernel⟩ ?hw ?hc
  case hw => w_witness2
  case hc =>
    exact Mn.mn_walk (l := PySem.Challenge.rw_handshidden_k19_labels_of_expressions) (n := 63) (k := Law.deep) (m := 5) (x := "script") (dl := Law.dLaw) Law.txt rfl (by decide) (by kernel_rfl) (by kernel_rfl) ⟨rfl, by decide, by decide⟩ Law.fits (by decide +kernel) (List.mem_of_getElem? (i := 28) (by kernel_rfl)) rfl rfl rfl (by kernel_rfl) plain
theorem PySem.Challenge.cw_handshidden_k19_labels_of_expressions_holds : PySem.Challenge.rw_handshidden_k19_labels_of_expressions.Holds := by
  exact Law.endOf Law.plain

end
