import PyProof.Rows.All
import Wide.All
import OpenK.AllK
import Wide.FinOn
import HandS.ForExc
import KE.SortData
import KE.DataEq
import KE.KDictKeyed
import HandS.IsInst
import HandS.Zip
import HandS.TupAny
import HandS.Conv
import HandS.Iter
import HandS.Comp
import KE.DataAny
import HandS.Small
import HandS.Dict
import HandS.TupLen
import KE.GoesEnum
import HandS.ExcOwn
import HandS.WordsExc
import HandS.ForMost
import HandS.TryMany
import PyProof.ExcBaseAll.ValueError
import HandS.SetFor
import HandS.Sort
import HandS.Style
import KE.KDictDisplayH
import HandS.Strs
import HandS.TupSets
import KE.DataFind
import HandS.DictComp
import PySem.Challenge.RW_stillfound_k02_whole_finds_pieces_knots
set_option Elab.async false
set_option linter.all false
set_option autoImplicit false
/-! Mi: the plain meaning of the programs' Python: values as trees, a store of the objects that change, one combinator a construct. -/
noncomputable section
namespace Mi
open PySem

/-- a value that nothing unfolds -/
def shut {α : Type} (a : α) : α := Classical.choose (⟨a, rfl⟩ : ∃ b, b = a)
theorem shut_eq {α : Type} (a : α) : shut a = a := Classical.choose_spec (⟨a, rfl⟩ : ∃ b, b = a)
/-- values: tuples, lists that nobody changes, dicts that nobody changes as trees; what is changed at a place of the store -/
inductive D where
  | non | bl (b : Bool) | int (i : Int) | str (x : Str) | tup (ds : List D) | lst (ds : List D) | rol (ds : List D) | dct (t : Bool) (kvs : List (D × D)) | rng (lo hi : Int) | loc (l : Nat) | fn (x : Str)
  deriving Inhabited
abbrev Key := Sum Int Str
/-- a dict's keys are numbers and texts (false), or tuples (true); an empty one may change -/
inductive O where
  | lst (ds : List D)
  | dct (t : Bool) (kvs : List (D × D))
  | ins (c : Str) (fs : List (Str × D))
abbrev Store := List O
structure Exn where
  name : Str
  arg : Option D
inductive R (α : Type) where
  | ok (a : α) (st : Store)
  | ex (x : Exn) (st : Store)
abbrev M (α : Type) := Store → Option (R α)
section
variable {α β : Type}
def ret (a : α) : M α := fun st => some (.ok a st)
def stuck : M α := fun _ => none
def bnd (m : M α) (f : α → M β) : M β := fun st => match m st with
  | some (.ok a st1) => f a st1
  | some (.ex x st1) => some (.ex x st1)
  | none => none
def bndN {α β : Type} (m : M α) (f : α → M β) : M β := fun st => match m st with
  | some (.ok a st1) => f a st1
  | _ => none
def need (o : Option α) : M α := fun st => match o with
  | some a => some (.ok a st)
  | none => none
/-- what only looks at the store -/
def look (f : Store → Option α) : M α := fun st => match f st with
  | some a => some (.ok a st)
  | none => none
end
abbrev Env := List (Option D)
abbrev E := Env → M D
abbrev EL := Env → M (List D)
abbrev T := Env → M Bool

/-! ### data of a value -/
mutual
def py (ρ : Nat → Option PyData) : D → Option PyData
  | .non => some .none
  | .bl b => some (.bool b)
  | .int i => some (.int i)
  | .str x => some (.str x)
  | .tup ds => match pys ρ ds with | some xs => some (.tuple xs) | none => none
  | .lst ds => match pys ρ ds with | some xs => some (.list xs) | none => none
  | .rol _ => none
  | .dct _ _ => none
  | .rng _ _ => none
  | .loc l => ρ l
  | .fn _ => none
def pys (ρ : Nat → Option PyData) : List D → Option (List PyData)
  | [] => some []
  | d :: ds => match py ρ d with
    | some x => (match pys ρ ds with | some xs => some (x :: xs) | none => none)
    | none => none
end
def locPy (st : Store) : Nat → Nat → Option PyData
  | 0, _ => none
  | n + 1, l => match st[l]? with
    | some (.lst ds) => (match pys (locPy st n) ds with | some xs => some (.list xs) | none => none)
    | _ => none
def toPy (st : Store) (d : D) : Option PyData := py (locPy st 8) d
def toPys (st : Store) (ds : List D) : Option (List PyData) := pys (locPy st 8) ds

/-! ### keys -/
def okLen (n : Nat) : Bool := shut (decide (n ≤ 16777216))
theorem okLen_eq (n : Nat) : okLen n = decide (n ≤ 16777216) := shut_eq _
def okLt (n : Nat) : Bool := shut (decide (n < 16777216))
theorem okLt_eq (n : Nat) : okLt n = decide (n < 16777216) := shut_eq _

mutual
/-- what a value is as a key -/
def keyOf : D → Option NestedKey
  | .non => some .none
  | .bl b => some (.num (if b then 1 else 0))
  | .int i => some (.num i)
  | .str x => some (.text x)
  | .tup ds => (match keysOf ds with | some ks => some (.tup ks) | none => none)
  | .lst _ => none
  | .rol _ => none
  | .dct _ _ => none
  | .rng _ _ => none
  | .loc _ => none
  | .fn _ => none
def keysOf : List D → Option (List NestedKey)
  | [] => some []
  | d :: ds => (match keyOf d with
    | some k => (match keysOf ds with | some ks => some (k :: ks) | none => none)
    | none => none)
end
def atomKey : D → Option Key
  | .int i => some (.inl i)
  | .str x => some (.inr x)
  | _ => none
def tupKey : D → Option NestedKey
  | .tup ds => (match keyOf (.tup ds) with
    | some k => if k.depth ≤ 8 then some k else none
    | none => none)
  | _ => none
def keyD : Key → D
  | .inl i => .int i
  | .inr x => .str x
def kOk (t : Bool) (k : D) : Bool := if t then (tupKey k).isSome else (atomKey k).isSome
def kEq (a b : D) : Bool := decide (keyOf a = keyOf b)
/-- what stands at a key -/
def kFind (kvs : List (D × D)) (k : D) : Option D := (kvs.find? fun p => kEq p.1 k).map (·.2)
def kPut (kvs : List (D × D)) (k v : D) : List (D × D) := if kvs.any (fun p => kEq p.1 k) then kvs.map (fun p => if kEq p.1 k then (p.1, v) else p) else kvs ++ [(k, v)]
def kDrop (kvs : List (D × D)) (k : D) : List (D × D) := kvs.filter fun p => !kEq p.1 k
/-- .. none: no key of this dict's kind -/
def dFind (t : Bool) (kvs : List (D × D)) (k : D) : Option (Option D) := if kOk t k then some (kFind kvs k) else if kvs.isEmpty && kOk (!t) k then some none else none
def dPut (t : Bool) (kvs : List (D × D)) (k v : D) : Option (Bool × List (D × D)) := if okLt kvs.length then (if kOk t k then some (t, kPut kvs k v) else if kvs.isEmpty && kOk (!t) k then some (!t, [(k, v)]) else none) else none
def dctOf (st : Store) : D → Option (Bool × List (D × D))
  | .dct t kvs => some (t, kvs)
  | .loc l => match st[l]? with | some (.dct t kvs) => some (t, kvs) | _ => none
  | _ => none

/-! ### operations on values -/
def seqOf (st : Store) : D → Option (List D)
  | .tup ds => some ds
  | .lst ds => some ds
  | .rol ds => some ds
  | .loc l => match st[l]? with | some (.lst ds) => some ds | _ => none
  | _ => none
/-- the items of a list -/
def lstOf (st : Store) : D → Option (List D)
  | .lst ds => some ds
  | .loc l => match st[l]? with | some (.lst ds) => some ds | _ => none
  | _ => none

def dEq (st : Store) (x y : D) : Option Bool := match toPy st x, toPy st y with
  | some a, some b => if min a.depth b.depth ≤ 64 then some (PyData.eqv a b) else none
  | _, _ => none
def dNe (st : Store) (x y : D) : Option Bool := match dEq st x y with
  | some b => some (!b)
  | none => none
def dInS (st : Store) (x c : D) : Option Bool := match toPy st x, seqOf st c with
  | some a, some ds => (match toPys st ds with
    | some xs => if min (PyData.depthAll xs) a.depth ≤ 64 then some (xs.any fun y => PyData.eqv y a) else none
    | none => none)
  | _, _ => none
def dIn (st : Store) (x c : D) : Option Bool := match dctOf st c with
  | some (t, kvs) => (match dFind t kvs x with | some o => some o.isSome | none => none)
  | none => dInS st x c
def dNotIn (st : Store) (x c : D) : Option Bool := match dIn st x c with
  | some b => some (!b)
  | none => none
def dLt (_ : Store) : D → D → Option Bool
  | .int i, .int j => some (decide (i < j))
  | _, _ => none
def dLe (_ : Store) : D → D → Option Bool
  | .int i, .int j => some (decide (i ≤ j))
  | _, _ => none
def dGt (_ : Store) : D → D → Option Bool
  | .int i, .int j => some (decide (j < i))
  | _, _ => none
def dGe (_ : Store) : D → D → Option Bool
  | .int i, .int j => some (decide (j ≤ i))
  | _, _ => none
def isNon : D → Bool
  | .non => true
  | _ => false
/-- is None, is not None -/
def dIsN (_ : Store) (x _ : D) : Option Bool := some (isNon x)
def dIsNotN (_ : Store) (x _ : D) : Option Bool := some (!isNon x)

abbrev Op := D → D → Option D
def oAdd : Op
  | .int i, .int j => some (.int (i + j))
  | .str x, .str y => if okLen (x.length + y.length) then some (.str (x ++ y)) else none
  | .tup xs, .tup ys => if okLen (xs.length + ys.length) then some (.tup (xs ++ ys)) else none
  | _, _ => none
def oSub : Op
  | .int i, .int j => some (.int (i - j))
  | _, _ => none
def mulOk (i j : Int) : Bool := shut ((decide (-(2 ^ 64) < i) && decide (i < 2 ^ 64)) || (decide (-(2 ^ 64) < j) && decide (j < 2 ^ 64)))
theorem mulOk_eq (i j : Int) : mulOk i j = ((decide (-(2 ^ 64) < i) && decide (i < 2 ^ 64)) || (decide (-(2 ^ 64) < j) && decide (j < 2 ^ 64))) := shut_eq _
def oMul : Op
  | .int i, .int j => if mulOk i j then some (.int (i * j)) else none
  | _, _ => none
def divOk (j : Int) : Bool := shut (decide (0 < j) && decide (j < 1073741824))
theorem divOk_eq (j : Int) : divOk j = (decide (0 < j) && decide (j < 1073741824)) := shut_eq _
def oDiv : Op
  | .int i, .int j => if divOk j then some (.int (i / j)) else none
  | _, _ => none
def oMod : Op
  | .int i, .int j => if decide (0 < j) then some (.int (i % j)) else none
  | _, _ => none
def powOk (i j : Int) : Bool := shut (decide (0 ≤ j) && decide (j ≤ 1000000) && decide (i.natAbs < 2 ^ 64))
theorem powOk_eq (i j : Int) : powOk i j = (decide (0 ≤ j) && decide (j ≤ 1000000) && decide (i.natAbs < 2 ^ 64)) := shut_eq _
def oPow : Op
  | .int i, .int j => if powOk i j then some (.int (i ^ j.toNat)) else none
  | _, _ => none

def tyOf (st : Store) : D → Option String
  | .non => some "NoneType"
  | .bl _ => some "bool"
  | .int _ => some "int"
  | .str _ => some "str"
  | .tup _ => some "tuple"
  | .lst _ => some "list"
  | .rol _ => some "list"
  | .dct _ _ => some "dict"
  | .rng _ _ => none
  | .loc l => match st[l]? with | some (.lst _) => some "list" | some (.dct _ _) => some "dict" | _ => none
  | .fn _ => none
def isa (t c : String) : Bool := (t == c) || (t == "bool" && c == "int")
def dIsi (c : String) (st : Store) (d : D) : Option Bool := match tyOf st d with
  | some t => some (isa t c)
  | none => none
def dIsi2 (c c' : String) (st : Store) (d : D) : Option Bool := match tyOf st d with
  | some t => some (isa t c || isa t c')
  | none => none

/-- s[i] -/
def itemAt (ds : List D) (i : Int) : Option D := L2.atI ds i
def dIx (st : Store) (x i : D) : Option D := match dctOf st x with
  | some (t, kvs) => (match dFind t kvs i with | some o => o | none => none)
  | none => (match seqOf st x, i with
    | some ds, .int k => itemAt ds k
    | _, _ => none)
/-- s[lo:hi] -/
def cutD (ds : List D) (lo hi : Option Int) : List D := (ds.drop (HT.sIx ds.length 0 lo)).take (HT.sIx ds.length ds.length hi - HT.sIx ds.length 0 lo)
def dSl (st : Store) (x : D) (lo hi : Option Int) : Option D := match x with
  | .tup ds => some (.tup (cutD ds lo hi))
  | .lst ds => some (.lst (cutD ds lo hi))
  | .rol ds => some (.lst (cutD ds lo hi))
  | .loc l => (match st[l]? with | some (.lst ds) => some (.lst (cutD ds lo hi)) | _ => none)
  | _ => none
def dLen (st : Store) (d : D) : Option Int := match d with
  | .str x => if okLen x.length then some (x.length : Int) else none
  | _ => match dctOf st d with
    | some (_, kvs) => some (kvs.length : Int)
    | none => (match seqOf st d with
      | some ds => some (ds.length : Int)
      | none => none)

/-! ### expressions -/
def eVar (i : Nat) : E := fun σ => need (match σ[i]? with | some (some d) => some d | _ => none)
def eC (d : D) : E := fun _ => ret d
def eNil : EL := fun _ => ret []
def eCons (a : E) (r : EL) : EL := fun σ => bnd (a σ) fun d => bnd (r σ) fun ds => ret (d :: ds)
def eTup (es : EL) : E := fun σ => bnd (es σ) fun ds => if okLen ds.length then ret (.tup ds) else stuck
def eBin (f : Op) (a b : E) : E := fun σ => bnd (a σ) fun x => bnd (b σ) fun y => need (f x y)
def eNeg (a : E) : E := fun σ => bnd (a σ) fun x => need (match x with | .int i => some (.int (-i)) | _ => none)
abbrev Cmp := Store → D → D → Option Bool
def tCmp (f : Cmp) (a b : E) : T := fun σ => bnd (a σ) fun x => bnd (b σ) fun y => look fun st => f st x y
def tChain (f g : Cmp) (a b c : E) : T := fun σ => bnd (a σ) fun x => bnd (b σ) fun y => bnd (look fun st => f st x y) fun k => if k then bnd (c σ) fun z => look fun st => g st y z else ret false
def tAnd (a b : T) : T := fun σ => bnd (a σ) fun x => if x then b σ else ret false
def tOr (a b : T) : T := fun σ => bnd (a σ) fun x => if x then ret true else b σ
def tNot (a : T) : T := fun σ => bnd (a σ) fun x => ret (!x)
/-- a truth value as a value, and back -/
def eB (t : T) : E := fun σ => bnd (t σ) fun b => ret (.bl b)
def tE (e : E) : T := fun σ => bnd (e σ) fun d => need (match d with | .bl b => some b | _ => none)
def eIf (t : T) (a b : E) : E := fun σ => bnd (t σ) fun c => if c then a σ else b σ
def eAnd (a b : E) : E := fun σ => bnd (a σ) fun x => match x with | .bl true => b σ | .bl false => ret (.bl false) | _ => stuck
def eOr (a b : E) : E := fun σ => bnd (a σ) fun x => match x with | .bl false => b σ | .bl true => ret (.bl true) | _ => stuck
def eIsi (c : String) (a : E) : E := fun σ => bnd (a σ) fun x => look fun st => match dIsi c st x with | some b => some (.bl b) | none => none
def eIsi2 (c c' : String) (a : E) : E := fun σ => bnd (a σ) fun x => look fun st => match dIsi2 c c' st x with | some b => some (.bl b) | none => none
def eIx (a b : E) : E := fun σ => bnd (a σ) fun x => bnd (b σ) fun i => look fun st => dIx st x i
abbrev P := Env → M (Option Int)
def pNo : P := fun _ => ret none
def pAt (a : E) : P := fun σ => bnd (a σ) fun x => need (match x with | .int i => some (some i) | _ => none)
def eSl (a : E) (lo hi : P) : E := fun σ => bnd (a σ) fun x => bnd (lo σ) fun l => bnd (hi σ) fun h => look fun st => dSl st x l h
def eLen (a : E) : E := fun σ => bnd (a σ) fun x => look fun st => match dLen st x with | some n => some (.int n) | none => none
/-- a call of a one-place built-in on a value -/
def eU (f : D → Option D) (a : E) : E := fun σ => bnd (a σ) fun x => need (f x)
def uAbs : D → Option D
  | .int i => some (.int (if i < 0 then -i else i))
  | _ => none
def uInt : D → Option D
  | .int i => some (.int i)
  | .bl b => some (.int (if b then 1 else 0))
  | _ => none
def oMin : Op
  | .int i, .int j => some (.int (if j < i then j else i))
  | _, _ => none
def oMax : Op
  | .int i, .int j => some (.int (if j > i then j else i))
  | _, _ => none
/-- a new list: by value, or at a new place of the store -/
def eL (es : EL) : E := fun σ => bnd (es σ) fun ds => ret (.lst ds)
def eNew (es : EL) : E := fun σ => bnd (es σ) fun ds => fun st => some (.ok (.loc st.length) (st ++ [.lst ds]))
/-- a display [a, b, ..] -/
def lDisp (es : EL) : EL := fun σ => bnd (es σ) fun ds => if okLen ds.length then ret ds else stuck
/-- the items of a list, a tuple as a new list: list(x) -/
def lOf (a : E) : EL := fun σ => bnd (a σ) fun x => look fun st => seqOf st x
/-- two lists, one behind the other -/
def lAdd (a b : E) : EL := fun σ => bnd (a σ) fun x => bnd (b σ) fun y => look fun st => match lstOf st x, lstOf st y with
  | some xs, some ys => if okLen (xs.length + ys.length) then some (xs ++ ys) else none
  | _, _ => none
/-- tuple(x) -/
def eTupOf (a : E) : E := fun σ => bnd (a σ) fun x => look fun st => match x with
  | .tup ds => some (.tup ds)
  | _ => (match lstOf st x with | some ds => some (.tup ds) | none => none)
def blsOf : List D → Option (List Bool)
  | [] => some []
  | .bl b :: ds => (match blsOf ds with | some bs => some (b :: bs) | none => none)
  | _ :: _ => none
def allBl (ds : List D) : Option Bool := match blsOf ds with | some bs => some (bs.all id) | none => none
def anyBl (ds : List D) : Option Bool := match blsOf ds with | some bs => some (bs.any id) | none => none
def tAll (a : E) : T := fun σ => bnd (a σ) fun x => look fun st => match lstOf st x with | some ds => allBl ds | none => none
def tAny (a : E) : T := fun σ => bnd (a σ) fun x => look fun st => match lstOf st x with | some ds => anyBl ds | none => none

/-- sorted, of data that are alike -/
def alikeB (xs : List PyData) : Bool := xs.all fun a => xs.all fun b => PySem.W.alike a b
def isTup1 : PyData → Bool
  | .tuple (_ :: _) => true
  | _ => false
def noTup : PyData → Bool
  | .tuple _ => false
  | .none => false
  | _ => true
def sortD (st : Store) (ds : List D) : Option (List D) := match toPys st ds with
  | some xs => if alikeB xs && (xs.all isTup1 || xs.all noTup) && okLen xs.length && xs.all (fun x => decide (x.depth ≤ 64)) then
      some (((ds.zip xs).mergeSort (PySem.W.dataLe false (·.2))).map (·.1)) else none
  | none => none
def lSorted (a : E) : EL := fun σ => bnd (a σ) fun x => look fun st => match lstOf st x with | some ds => sortD st ds | none => none

/-! ### what is walked -/
/-- the items, and what must stand while they are walked -/
inductive Src where
  | fix (ds : List D)
  | live (l : Nat) (n : Nat)
abbrev I := Env → M Src
abbrev G := D → Env → Option Env
def gVar (i : Nat) : G := fun d σ => if i < σ.length then some (σ.set i (some d)) else none
def gSet2 (i j : Nat) : G := fun d σ => match d with
  | .tup [x, y] => if i < σ.length && j < σ.length then some ((σ.set i (some x)).set j (some y)) else none
  | _ => none
def gSet3 (i j k : Nat) : G := fun d σ => match d with
  | .tup [x, y, z] => if i < σ.length && j < σ.length && k < σ.length then some (((σ.set i (some x)).set j (some y)).set k (some z)) else none
  | _ => none
def rangeD (i j : Int) : List D := (List.range (j - i).toNat).map fun (k : Nat) => D.int (i + k)
def iOf (a : E) : I := fun σ => bnd (a σ) fun x => look fun st => match x with
  | .tup ds => some (.fix ds)
  | .lst ds => some (.fix ds)
  | .rol ds => some (.fix ds)
  | .rng i j => some (.fix (rangeD i j))
  | .loc l => (match st[l]? with | some (.lst ds) => some (.live l ds.length) | _ => none)
  | _ => none
def small62 (i : Int) : Bool := shut (decide (-(2 ^ 62) ≤ i) && decide (i < 2 ^ 62))
theorem small62_eq (i : Int) : small62 i = (decide (-(2 ^ 62) ≤ i) && decide (i < 2 ^ 62)) := shut_eq _
def iRange (a : E) : I := fun σ => bnd (a σ) fun x => need (match x with | .int j => if small62 j then some (.fix (rangeD 0 j)) else none | _ => none)
def iRange2 (a b : E) : I := fun σ => bnd (a σ) fun x => bnd (b σ) fun y => need (match x, y with | .int i, .int j => if small62 i && small62 j then some (.fix (rangeD i j)) else none | _, _ => none)
def enumFrom (n : Nat) : List D → List D
  | [] => []
  | d :: ds => .tup [.int n, d] :: enumFrom (n + 1) ds
def zipD : List D → List D → List D
  | x :: xs, y :: ys => .tup [x, y] :: zipD xs ys
  | _, _ => []
/-- a new list walked at once -/
def iL (l : EL) : I := fun σ => bnd (l σ) fun ds => ret (.fix ds)
/-- enumerate(x), zip(x, y): of tuples and lists that nobody changes -/
def iEnum (a : E) : I := fun σ => bnd (a σ) fun x => need (match x with | .tup ds => some (.fix (enumFrom 0 ds)) | .lst ds => some (.fix (enumFrom 0 ds)) | _ => none)
def iZip (a b : E) : I := fun σ => bnd (a σ) fun x => bnd (b σ) fun y => need (match x, y with
  | .tup xs, .tup ys => some (.fix (zipD xs ys))
  | .lst xs, .lst ys => some (.fix (zipD xs ys))
  | _, _ => none)

/-! ### comprehensions -/
def wipe (σ : Env) : List Nat → Env
  | [] => σ
  | v :: vs => (wipe σ vs).set v none
def compFix (g : G) (t : T) (e : E) (σ : Env) : List D → M (List D)
  | [] => ret []
  | d :: ds => match g d σ with
    | none => stuck
    | some σ1 => bndN (t σ1) fun k => if k then bndN (e σ1) fun x => bndN (compFix g t e σ ds) fun xs => ret (x :: xs) else compFix g t e σ ds
def compLive (g : G) (t : T) (e : E) (σ : Env) (l : Nat) : Nat → Nat → M (List D)
  | 0, i => fun st => match st[l]? with
    | some (.lst ds) => if ds.length ≤ i then some (.ok [] st) else none
    | _ => none
  | n + 1, i => fun st => match st[l]? with
    | some (.lst ds) => (match ds[i]? with
      | none => none
      | some d => (match g d σ with
        | none => none
        | some σ1 => bndN (t σ1) (fun k => if k then bndN (e σ1) fun x => bndN (compLive g t e σ l n (i + 1)) fun xs => ret (x :: xs) else compLive g t e σ l n (i + 1)) st))
    | _ => none
def lComp (s : I) (g : G) (t : T) (e : E) (vs : List Nat) : EL := fun σ => bnd (s σ) fun src => bnd (match src with
  | .fix ds => compFix g t e (wipe σ vs) ds
  | .live l n => compLive g t e (wipe σ vs) l n 0) fun ds => if okLen ds.length then ret ds else stuck
def tYes : T := fun _ => ret true

/-! ### statements -/
inductive RS where
  | nx (σ : Env) (st : Store)
  | rt (d : D) (st : Store)
  | bk (σ : Env) (st : Store)
  | ct (σ : Env) (st : Store)
  | ex (x : Exn) (σ : Env) (st : Store)
abbrev S := Env → Store → Option RS
/-- an expression, then what is done with its value -/
def sBnd {α : Type} (m : M α) (σ : Env) (f : α → Store → Option RS) : Store → Option RS := fun st => match m st with
  | some (.ok a st1) => f a st1
  | some (.ex x st1) => some (.ex x σ st1)
  | none => none
def sSkip : S := fun σ st => some (.nx σ st)
def sSeq (a b : S) : S := fun σ st => match a σ st with
  | some (.nx σ1 st1) => b σ1 st1
  | r => r
def sSet (i : Nat) (e : E) : S := fun σ => sBnd (e σ) σ fun d st => if i < σ.length then some (.nx (σ.set i (some d)) st) else none
def sAsg (g : G) (e : E) : S := fun σ => sBnd (e σ) σ fun d st => match g d σ with | some σ1 => some (.nx σ1 st) | none => none
def sAug (i : Nat) (f : Op) (e : E) : S := fun σ => sBnd (bnd (eVar i σ) fun x => bnd (e σ) fun y => need (f x y)) σ fun d st => some (.nx (σ.set i (some d)) st)
def sRet (e : E) : S := fun σ => sBnd (e σ) σ fun d st => some (.rt d st)
def sIf (t : T) (a b : S) : S := fun σ => sBnd (t σ) σ fun c st => if c then a σ st else b σ st
def sExpr (e : E) : S := fun σ => sBnd (e σ) σ fun _ st => some (.nx σ st)
def sBreak : S := fun σ st => some (.bk σ st)
def sCont : S := fun σ st => some (.ct σ st)
def sNever : S := fun _ _ => none
def sRaise (x : Str) : S := fun σ st => some (.ex ⟨x, none⟩ σ st)
/-- x[i] = e, x a list of the store -/
def sPut (o i e : E) : S := fun σ => sBnd (e σ) σ fun d => sBnd (bnd (o σ) fun x => bnd (i σ) fun k => ret (x, k)) σ fun p st => match p with
  | (.loc l, .int k) => (match st[l]? with
    | some (.lst ds) => (match L2.ixN ds.length k with
      | some j => some (.nx σ (st.set l (.lst (ds.set j d))))
      | none => none)
    | _ => none)
  | _ => none
/-- a list of the store's -/
def eLoc (o : E) : Env → M Nat := fun σ => bnd (o σ) fun x => look fun st => match x with
  | .loc l => (match st[l]? with | some (.lst _) => some l | _ => none)
  | _ => none
/-- x.append(e), x.extend(e) -/
def sApp (o e : E) : S := fun σ => sBnd (bnd (eLoc o σ) fun l => bnd (e σ) fun d => ret (l, d)) σ fun p st => match st[p.1]? with
  | some (.lst ds) => if okLt ds.length then some (.nx σ (st.set p.1 (.lst (ds ++ [p.2])))) else none
  | _ => none
def sExt (o e : E) : S := fun σ => sBnd (bnd (eLoc o σ) fun l => bnd (e σ) fun d => bnd (look fun st => lstOf st d) fun xs => ret (l, xs)) σ fun p st => match st[p.1]? with
  | some (.lst ds) => if okLen (ds.length + p.2.length) then some (.nx σ (st.set p.1 (.lst (ds ++ p.2)))) else none
  | _ => none
def forFix (g : G) (b : S) : List D → S
  | [] => fun σ st => some (.nx σ st)
  | d :: ds => fun σ st => match g d σ with
    | none => none
    | some σ1 => match b σ1 st with
      | some (.nx σ2 st2) => forFix g b ds σ2 st2
      | some (.ct σ2 st2) => forFix g b ds σ2 st2
      | some (.bk σ2 st2) => some (.nx σ2 st2)
      | r => r
def forLive (g : G) (b : S) (l : Nat) : Nat → Nat → S
  | 0, i => fun σ st => match st[l]? with
    | some (.lst ds) => if ds.length ≤ i then some (.nx σ st) else none
    | _ => none
  | n + 1, i => fun σ st => match st[l]? with
    | some (.lst ds) => (match ds[i]? with
      | none => none
      | some d => (match g d σ with
        | none => none
        | some σ1 => match b σ1 st with
          | some (.nx σ2 st2) => forLive g b l n (i + 1) σ2 st2
          | some (.ct σ2 st2) => forLive g b l n (i + 1) σ2 st2
          | some (.bk σ2 st2) => some (.nx σ2 st2)
          | r => r))
    | _ => none
def sFor (s : I) (g : G) (b : S) : S := fun σ => sBnd (s σ) σ fun src st => match src with
  | .fix ds => forFix g b ds σ st
  | .live l n => forLive g b l n 0 σ st
def whN (c : T) (b : S) : Nat → S
  | 0 => fun _ _ => none
  | n + 1 => fun σ => sBnd (c σ) σ fun k st => if k then (match b σ st with
      | some (.nx σ2 st2) => whN c b n σ2 st2
      | some (.ct σ2 st2) => whN c b n σ2 st2
      | some (.bk σ2 st2) => some (.nx σ2 st2)
      | r => r) else some (.nx σ st)
def sWhile (fuel : Nat) (c : T) (b : S) : S := whN c b fuel

/-! ### functions -/
def start (n : Nat) (args : List D) : Env := args.map some ++ List.replicate (n - args.length) none
/-- a def's body, run -/
def runB (n : Nat) (b : S) (args : List D) : M D := fun st => match b (start n args) st with
  | some (.nx _ st1) => some (.ok .non st1)
  | some (.rt d st1) => some (.ok d st1)
  | some (.ex x _ st1) => some (.ex x st1)
  | _ => none
mutual
def below (n : Nat) : D → Bool
  | .tup ds => belows n ds
  | .lst ds => belows n ds
  | .rol ds => belows n ds
  | .dct _ kvs => belowk n kvs
  | .loc l => decide (l < n)
  | _ => true
def belows (n : Nat) : List D → Bool
  | [] => true
  | d :: ds => below n d && belows n ds
def belowk (n : Nat) : List (D × D) → Bool
  | [] => true
  | (k, d) :: ds => below n k && (below n d && belowk n ds)
end
def belowO (n : Nat) : O → Bool
  | .lst ds => belows n ds
  | .dct _ kvs => belowk n kvs
  | .ins _ fs => belows n (fs.map (·.2))
def okSt (n : Nat) (st : Store) : Bool := st.all (belowO n)
/-- a list of the callee's own, handed back, is a value from here on -/
def thaw (n : Nat) (st : Store) : D → D
  | .loc l => if l < n then .loc l else match st[l]? with
    | some (.lst ds) => .lst ds
    | some (.dct t kvs) => .dct t kvs
    | _ => .loc l
  | d => d
def argBelow (n : Nat) (x : Exn) : Bool := match x.arg with | some d => below n d | none => true
/-- what the callee made for itself is forgotten -/
def scp (m : M D) : M D := fun st => match m st with
  | some (.ok d st1) =>
    let e := thaw st.length st1 d
    if below st.length e && okSt st.length (st1.take st.length) then some (.ok e (st1.take st.length)) else none
  | some (.ex x st1) => if argBelow st.length x && okSt st.length (st1.take st.length) then some (.ex x (st1.take st.length)) else none
  | none => none
abbrev Fn := List D → M D
def eCall (f : Fn) (as : EL) : E := fun σ => bnd (as σ) f
end Mi
end
set_option Elab.async false
set_option linter.all false
set_option autoImplicit false
set_option maxRecDepth 100000
/-! Mi: how the tree values and the store lie in the abstract heap of the hand layer; the judgements. -/
noncomputable section
namespace Mi
open PySem PySem.Spec PyProof.Rows L2

/-- the module's names; the places of lists that are being made, to which no value refers -/
structure Names where
  f : Str → Option Value
  w : World
structure Ctx where
  g : Names
  ρ : List Addr
abbrev _root_.L2.Cx.nm (X : L2.Cx) : Names := ⟨X.mg, X.w⟩
/-- a dict whose keys are tuples -/
def hoN (w : World) (a : Addr) (nvs : List (NestedKey × Addr × V)) : HO := .ext fun h => nvs.length ≤ sizeLine ∧ (a == sysModules) = false ∧ ∃ xs : List (NestedKey × Addr × Value),
  Paired (fun (p : NestedKey × Addr × V) (q : NestedKey × Addr × Value) => p.1 = q.1 ∧ p.2.1 = q.2.1 ∧ RelV p.2.2 q.2.2) nvs xs ∧
  ∃ o es ep, h.get? a = some o ∧ o.ExactDict ∧ o.data = .dict es ep ∧ es.toList = xs.map (fun x => (⟨x.1.hash w, .ref x.2.1, x.2.2⟩ : DictEntry)) ∧ (xs.map (·.1)).Nodup
abbrev Ctx.add (c : Ctx) (p : Addr) : Ctx := ⟨c.g, p :: c.ρ⟩
/-- a list that is only read -/
def RoAt (K : PySem.W.Frag) (mg : Ctx) (μ : List Addr) (H : Hp) (a : Addr) (vs : List V) : Prop :=
  (a ∉ μ ∧ a ∉ mg.ρ ∧ Rd H a (.lst vs)) ∨
    ∃ (o : Obj) (its : Array Value) (n : Nat), K.lookup a = some o ∧ o.cls = .type "list" ∧ o.dict = none ∧ o.data = .seq its n ∧ its.size ≤ sizeLine ∧ Vals vs its.toList
theorem RoAt.sq {K : PySem.W.Frag} {mg : Ctx} {μ : List Addr} {H : Hp} {a : Addr} {vs : List V} (h : RoAt K mg μ H a vs) : SqL K H a vs := by
  rcases h with ⟨_, _, h⟩ | h
  · exact .inl h
  · exact .inr h

mutual
inductive RD (K : PySem.W.Frag) (mg : Ctx) (μ : List Addr) (H : Hp) : V → D → Prop where
  | non : RD K mg μ H .non .non
  | bl (b : Bool) : RD K mg μ H (.bl b) (.bl b)
  | int (i : Int) : RD K mg μ H (.int i) (.int i)
  | str (x : Str) : RD K mg μ H (.str x) (.str x)
  | tup {a : Addr} {vs : List V} {ds : List D} : H a = some (.tup vs) → RDs K mg μ H vs ds → RD K mg μ H (.ref a) (.tup ds)
  | lst {a : Addr} {vs : List V} {ds : List D} : a ∉ μ → a ∉ mg.ρ → H a = some (.lst vs) → RDs K mg μ H vs ds → RD K mg μ H (.ref a) (.lst ds)
  | rol {a : Addr} {vs : List V} {ds : List D} : RoAt K mg μ H a vs → RDs K mg μ H vs ds → RD K mg μ H (.ref a) (.rol ds)
  | dctA {a : Addr} {kvs : List (Key × V)} {kds : List (D × D)} : H a = some (.dK kvs) → a ∉ μ → a ∉ mg.ρ → RDk K mg μ H kvs kds → RD K mg μ H (.ref a) (.dct false kds)
  | dctN {a : Addr} {nvs : List (NestedKey × Addr × V)} {kds : List (D × D)} : H a = some (hoN mg.g.w a nvs) → a ∉ μ → a ∉ mg.ρ → RDn K mg μ H nvs kds → RD K mg μ H (.ref a) (.dct true kds)
  | rng {a : Addr} {lo hi : Int} : H a = some (.rng lo hi) → a ∉ μ → a ∉ mg.ρ → (-(2 ^ 62) ≤ lo ∧ lo < 2 ^ 62 ∧ -(2 ^ 62) ≤ hi ∧ hi < 2 ^ 62) → RD K mg μ H (.ref a) (.rng lo hi)
  | loc {a : Addr} {l : Nat} : μ[l]? = some a → RD K mg μ H (.ref a) (.loc l)
  | fn {a : Addr} {x : Str} : mg.g.f x = some (.ref a) → RD K mg μ H (.ref a) (.fn x)
inductive RDs (K : PySem.W.Frag) (mg : Ctx) (μ : List Addr) (H : Hp) : List V → List D → Prop where
  | nil : RDs K mg μ H [] []
  | cons {v : V} {d : D} {vs : List V} {ds : List D} : RD K mg μ H v d → RDs K mg μ H vs ds → RDs K mg μ H (v :: vs) (d :: ds)
inductive RDk (K : PySem.W.Frag) (mg : Ctx) (μ : List Addr) (H : Hp) : List (Key × V) → List (D × D) → Prop where
  | nil : RDk K mg μ H [] []
  | cons {k : Key} {v : V} {d : D} {vs : List (Key × V)} {ds : List (D × D)} : RD K mg μ H v d → RDk K mg μ H vs ds → RDk K mg μ H ((k, v) :: vs) ((keyD k, d) :: ds)
inductive RDn (K : PySem.W.Frag) (mg : Ctx) (μ : List Addr) (H : Hp) : List (NestedKey × Addr × V) → List (D × D) → Prop where
  | nil : RDn K mg μ H [] []
  | cons {k : NestedKey} {p : Addr} {v : V} {c d : D} {vs : List (NestedKey × Addr × V)} {ds : List (D × D)} : tupKey c = some k → RD K mg μ H (.ref p) c → RD K mg μ H v d → RDn K mg μ H vs ds → RDn K mg μ H ((k, p, v) :: vs) ((c, d) :: ds)
end

/-- from (μ, H) to (μ', H'): new places of the store are new objects, all that is not of the store stays -/
structure Step (μ : List Addr) (H : Hp) (μ' : List Addr) (H' : Hp) : Prop where
  pre : ∃ ν, μ' = μ ++ ν ∧ ∀ p ∈ ν, H p = none
  keep : ∀ a o, H a = some o → a ∉ μ → H' a = some o

def ObjR (K : PySem.W.Frag) (mg : Ctx) (μ : List Addr) (H : Hp) (a : Addr) : O → Prop
  | .lst ds => ∃ vs, H a = some (.lst vs) ∧ RDs K mg μ H vs ds
  | .dct false kds => ∃ kvs, H a = some (.dK kvs) ∧ RDk K mg μ H kvs kds
  | .dct true kds => ∃ nvs, H a = some (hoN mg.g.w a nvs) ∧ RDn K mg μ H nvs kds
  | .ins c fs => ∃ (C dx : Addr) (vs : List V), mg.g.f c = some (.ref C) ∧ H a = some (.ins C dx ((fs.map (·.1)).zip vs)) ∧ RDs K mg μ H vs (fs.map (·.2))
structure Rel (K : PySem.W.Frag) (mg : Ctx) (μ : List Addr) (st : Store) (H : Hp) : Prop where
  len : μ.length = st.length
  nd : μ.Nodup
  rn : mg.ρ.Nodup
  res : ∀ a ∈ mg.ρ, a ∉ μ ∧ ∃ o, H a = some o ∧ ∀ xs, o ≠ .tup xs
  obj : ∀ (l : Nat) (a : Addr) (o : O), μ[l]? = some a → st[l]? = some o → ObjR K mg μ H a o

section
variable {K : PySem.W.Frag} {mg : Ctx} {μ μ' μ1 μ2 : List Addr} {H H' H1 H2 : Hp} {st st1 st2 : Store}
theorem Rel.at (R : Rel K mg μ st H) {l : Nat} {o : O} (h : st[l]? = some o) : ∃ a, μ[l]? = some a ∧ ObjR K mg μ H a o := by
  have hl : l < μ.length := by rw [R.len]; exact (List.getElem?_eq_some_iff.mp h).1
  exact ⟨μ[l], List.getElem?_eq_getElem hl, R.obj l _ o (List.getElem?_eq_getElem hl) h⟩
theorem Rel.mem (R : Rel K mg μ st H) {a : Addr} (h : a ∈ μ) : (∃ vs, H a = some (.lst vs)) ∨ (∃ C dx fs, H a = some (.ins C dx fs)) ∨ (∃ kvs, H a = some (.dK kvs)) ∨ ∃ φ, H a = some (.ext φ) := by
  obtain ⟨l, hl, e⟩ := List.mem_iff_getElem.mp h
  have hs : l < st.length := by rw [← R.len]; exact hl
  have q := R.obj l a st[l] (by rw [List.getElem?_eq_getElem hl, e]) (List.getElem?_eq_getElem hs)
  cases ho : st[l] with
  | lst ds => rw [ho] at q; obtain ⟨vs, q, _⟩ := q; exact .inl ⟨vs, q⟩
  | dct t kds =>
    rw [ho] at q
    cases t with
    | false => obtain ⟨kvs, q, _⟩ := q; exact .inr (.inr (.inl ⟨kvs, q⟩))
    | true => obtain ⟨kvs, q, _⟩ := q; exact .inr (.inr (.inr ⟨_, q⟩))
  | ins c fs => rw [ho] at q; obtain ⟨C, dx, vs, _, q, _⟩ := q; exact .inr (.inl ⟨C, dx, _, q⟩)
theorem Rel.there (R : Rel K mg μ st H) {a : Addr} (h : a ∈ μ) : ∃ o, H a = some o := by
  rcases R.mem h with ⟨vs, e⟩ | ⟨C, dx, fs, e⟩ | ⟨kvs, e⟩ | ⟨φ, e⟩ <;> exact ⟨_, e⟩
theorem Rel.new (R : Rel K mg μ st H) {a : Addr} (h : H a = none) : a ∉ μ := fun z => by
  obtain ⟨o, e⟩ := R.there z
  rw [h] at e; cases e
theorem Rel.notTup (R : Rel K mg μ st H) {a : Addr} {vs : List V} (h : H a = some (.tup vs)) : a ∉ μ := fun z => by
  rcases R.mem z with ⟨ws, e⟩ | ⟨C, dx, fs, e⟩ | ⟨kvs, e⟩ | ⟨φ, e⟩ <;> (rw [h] at e; cases e)

theorem Rel.notTupR (R : Rel K mg μ st H) {a : Addr} {vs : List V} (h : H a = some (.tup vs)) : a ∉ mg.ρ := fun z => by
  obtain ⟨_, ws, e, nt⟩ := R.res a z
  rw [h] at e; cases e; exact nt _ rfl
theorem Step.refl (μ : List Addr) (H : Hp) : Step μ H μ H := ⟨⟨[], (List.append_nil _).symm, fun _ h => nomatch h⟩, fun _ _ h _ => h⟩
/-- (μ1 lies in H1) -/
theorem Step.trans (a : Step μ H μ1 H1) (R : Rel K mg μ1 st1 H1) (b : Step μ1 H1 μ2 H2) : Step μ H μ2 H2 := by
  obtain ⟨⟨ν, rfl, hν⟩, ka⟩ := a
  obtain ⟨⟨ρ, rfl, hρ⟩, kb⟩ := b
  refine ⟨⟨ν ++ ρ, List.append_assoc .., fun p hp => ?_⟩, fun a o h hn => ?_⟩
  · rcases List.mem_append.mp hp with hp | hp
    · exact hν p hp
    · cases e : H p with
      | none => rfl
      | some o =>
        have hn := hρ p hp
        by_cases hm : p ∈ μ
        · obtain ⟨u, hu⟩ := R.there (List.mem_append_left ν hm)
          rw [hn] at hu; cases hu
        · rw [ka p o e hm] at hn; cases hn
  · refine kb a o (ka a o h hn) fun z => ?_
    rcases List.mem_append.mp z with z | z
    · exact hn z
    · rw [hν a z] at h; cases h
theorem Step.laid {p : Addr} {o : HO} (h : H p = none) : Step μ H μ (upd H p o) :=
  ⟨⟨[], (List.append_nil _).symm, fun _ h => nomatch h⟩, fun a u e _ => by rw [upd_ne (ne_of_none e h)]; exact e⟩
theorem Step.put {l : Nat} {a : Addr} {o : HO} (h : μ[l]? = some a) : Step μ H μ (upd H a o) :=
  ⟨⟨[], (List.append_nil _).symm, fun _ h => nomatch h⟩, fun b u e hn => by rw [upd_ne (fun z => hn (by rw [z]; exact List.mem_of_getElem? h))]; exact e⟩
theorem Step.out (s : Step μ H μ' H') {a : Addr} {u : HO} (h : H a = some u) (hn : a ∉ μ) : a ∉ μ' := by
  obtain ⟨⟨ν, rfl, hν⟩, k⟩ := s
  intro z
  rcases List.mem_append.mp z with z | z
  · exact hn z
  · rw [hν a z] at h; cases h
theorem RoAt.step {a : Addr} {vs : List V} (s : Step μ H μ' H') (h : RoAt K mg μ H a vs) : RoAt K mg μ' H' a vs := by
  rcases h with ⟨hn, hr, h⟩ | h
  · obtain ⟨⟨ν, rfl, hν⟩, k⟩ := s
    have hm : ∀ u, H a = some u → a ∉ μ ++ ν := fun u e z => by
      rcases List.mem_append.mp z with z | z
      · exact hn z
      · rw [hν a z] at e; cases e
    rcases h with h | ⟨o, h⟩
    · exact .inl ⟨hm _ h, hr, .inl (k a _ h hn)⟩
    · exact .inl ⟨hm _ h, hr, .inr ⟨o, k a _ h hn⟩⟩
  · exact .inr h
theorem Step.idx (s : Step μ H μ' H') {l : Nat} {a : Addr} (h : μ[l]? = some a) : μ'[l]? = some a := by
  obtain ⟨⟨ν, rfl, _⟩, _⟩ := s
  rw [List.getElem?_append_left (List.getElem?_eq_some_iff.mp h).1]
  exact h
theorem Step.fresh (s : Step μ H μ' H') {a : Addr} (h : H' a = none) (hm : a ∉ μ) : H a = none := by
  cases e : H a with
  | none => rfl
  | some o => rw [s.keep a o e hm] at h; cases h

mutual
theorem RD.step {c : Ctx} (R : Rel K c μ st H) (s : Step μ H μ' H') : ∀ {v : V} {d : D}, RD K mg μ H v d → RD K mg μ' H' v d
  | _, _, .non => .non
  | _, _, .bl b => .bl b
  | _, _, .int i => .int i
  | _, _, .str x => .str x
  | _, _, .tup h r => .tup (s.keep _ _ h (R.notTup h)) (RDs.step R s r)
  | _, _, .lst hn hr h r => .lst (s.out h hn) hr (s.keep _ _ h hn) (RDs.step R s r)
  | _, _, .rol h r => .rol (h.step s) (RDs.step R s r)
  | _, _, .dctA h hn hr r => .dctA (s.keep _ _ h hn) (s.out h hn) hr (RDk.step R s r)
  | _, _, .dctN h hn hr r => .dctN (s.keep _ _ h hn) (s.out h hn) hr (RDn.step R s r)
  | _, _, .rng h hn hr b => .rng (s.keep _ _ h hn) (s.out h hn) hr b
  | _, _, .loc h => .loc (s.idx h)
  | _, _, .fn h => .fn h
theorem RDs.step {c : Ctx} (R : Rel K c μ st H) (s : Step μ H μ' H') : ∀ {vs : List V} {ds : List D}, RDs K mg μ H vs ds → RDs K mg μ' H' vs ds
  | _, _, .nil => .nil
  | _, _, .cons h r => .cons (RD.step R s h) (RDs.step R s r)
theorem RDk.step {c : Ctx} (R : Rel K c μ st H) (s : Step μ H μ' H') : ∀ {vs : List (Key × V)} {ds : List (D × D)}, RDk K mg μ H vs ds → RDk K mg μ' H' vs ds
  | _, _, .nil => .nil
  | _, _, .cons h r => .cons (RD.step R s h) (RDk.step R s r)
theorem RDn.step {c : Ctx} (R : Rel K c μ st H) (s : Step μ H μ' H') : ∀ {vs : List (NestedKey × Addr × V)} {ds : List (D × D)}, RDn K mg μ H vs ds → RDn K mg μ' H' vs ds
  | _, _, .nil => .nil
  | _, _, .cons e k h r => .cons e (RD.step R s k) (RD.step R s h) (RDn.step R s r)
end
theorem RDs.length : ∀ {vs : List V} {ds : List D}, RDs K mg μ H vs ds → vs.length = ds.length
  | _, _, .nil => rfl
  | _, _, .cons _ r => by rw [List.length_cons, List.length_cons, RDs.length r]
theorem RDs.get : ∀ {vs : List V} {ds : List D} {i : Nat} {d : D}, RDs K mg μ H vs ds → ds[i]? = some d → ∃ v, vs[i]? = some v ∧ RD K mg μ H v d
  | _, _, _, _, .nil, h => by simp at h
  | _, _, 0, _, .cons r _, h => by simp at h; subst h; exact ⟨_, rfl, r⟩
  | _, _, i + 1, _, .cons _ t, h => by
    obtain ⟨v, h1, h2⟩ := RDs.get (i := i) t (by simpa using h)
    exact ⟨v, by simpa using h1, h2⟩
theorem RDs.get' : ∀ {vs : List V} {ds : List D} {i : Nat} {v : V}, RDs K mg μ H vs ds → vs[i]? = some v → ∃ d, ds[i]? = some d ∧ RD K mg μ H v d
  | _, _, _, _, .nil, h => by simp at h
  | _, _, 0, _, .cons r _, h => by simp at h; subst h; exact ⟨_, rfl, r⟩
  | _, _, i + 1, _, .cons _ t, h => by
    obtain ⟨v, h1, h2⟩ := RDs.get' (i := i) t (by simpa using h)
    exact ⟨v, by simpa using h1, h2⟩
theorem RDs.app : ∀ {vs ws : List V} {ds es : List D}, RDs K mg μ H vs ds → RDs K mg μ H ws es → RDs K mg μ H (vs ++ ws) (ds ++ es)
  | _, _, _, _, .nil, r => r
  | _, _, _, _, .cons h t, r => .cons h (RDs.app t r)
theorem RDs.set {v : V} {d : D} (r : RD K mg μ H v d) : ∀ {vs : List V} {ds : List D} (i : Nat), RDs K mg μ H vs ds → RDs K mg μ H (vs.set i v) (ds.set i d)
  | _, _, _, .nil => .nil
  | _, _, 0, .cons _ t => .cons r t
  | _, _, i + 1, .cons h t => .cons h (RDs.set r i t)
theorem RDs.take : ∀ {vs : List V} {ds : List D} (n : Nat), RDs K mg μ H vs ds → RDs K mg μ H (vs.take n) (ds.take n)
  | _, _, 0, _ => .nil
  | _, _, _ + 1, .nil => .nil
  | _, _, n + 1, .cons h t => .cons h (RDs.take n t)
theorem RDs.drop : ∀ {vs : List V} {ds : List D} (n : Nat), RDs K mg μ H vs ds → RDs K mg μ H (vs.drop n) (ds.drop n)
  | _, _, 0, r => r
  | _, _, _ + 1, .nil => .nil
  | _, _, n + 1, .cons _ t => RDs.drop n t
theorem ObjR.step (R : Rel K mg μ st H) (s : Step μ H μ' H') {a : Addr} {o : O} (e : ∀ u, H a = some u → H' a = some u) (h : ObjR K mg μ H a o) : ObjR K mg μ' H' a o := by
  cases o with
  | lst ds => obtain ⟨vs, h1, h2⟩ := h; exact ⟨vs, e _ h1, h2.step R s⟩
  | dct t kds => cases t <;> (obtain ⟨vs, h1, h2⟩ := h; exact ⟨vs, e _ h1, h2.step R s⟩)
  | ins c fs => obtain ⟨C, dx, vs, h0, h1, h2⟩ := h; exact ⟨C, dx, vs, h0, e _ h1, h2.step R s⟩
/-- a new object beside -/
theorem Rel.laid (R : Rel K mg μ st H) {p : Addr} {o : HO} (h : H p = none) : Rel K mg μ st (upd H p o) :=
  ⟨R.len, R.nd, R.rn, fun a ha => ⟨(R.res a ha).1, let ⟨o, e, nt⟩ := (R.res a ha).2; ⟨o, by rw [upd_ne (ne_of_none e h)]; exact e, nt⟩⟩, fun l a u h1 h2 => (R.obj l a u h1 h2).step R (Step.laid h) fun w e => by rw [upd_ne (ne_of_none e h)]; exact e⟩
mutual
/-- the list at p, to which no value refers, goes into the store -/
theorem RD.take_in {p : Addr} : ∀ {v : V} {d : D}, RD K (mg.add p) μ H v d → RD K mg (μ ++ [p]) H v d
  | _, _, .non => .non
  | _, _, .bl b => .bl b
  | _, _, .int i => .int i
  | _, _, .str x => .str x
  | _, _, .tup h r => .tup h (RDs.take_in r)
  | _, _, .lst hn hr h r => .lst (fun z => by
      rcases List.mem_append.mp z with z | z
      · exact hn z
      · exact hr (by simp at z; simp [z])) (fun z => hr (List.mem_cons_of_mem _ z)) h (RDs.take_in r)
  | _, _, .rol h r => .rol (by
      rcases h with ⟨hn, hr, h⟩ | h
      · exact .inl ⟨fun z => by
          rcases List.mem_append.mp z with z | z
          · exact hn z
          · exact hr (by simp at z; simp [z]), fun z => hr (List.mem_cons_of_mem _ z), h⟩
      · exact .inr h) (RDs.take_in r)
  | _, _, .dctA h hn hr r => .dctA h (fun z => by
      rcases List.mem_append.mp z with z | z
      · exact hn z
      · exact hr (by simp at z; simp [z])) (fun z => hr (List.mem_cons_of_mem _ z)) (RDk.take_in r)
  | _, _, .dctN h hn hr r => .dctN h (fun z => by
      rcases List.mem_append.mp z with z | z
      · exact hn z
      · exact hr (by simp at z; simp [z])) (fun z => hr (List.mem_cons_of_mem _ z)) (RDn.take_in r)
  | _, _, .rng h hn hr b => .rng h (fun z => by
      rcases List.mem_append.mp z with z | z
      · exact hn z
      · exact hr (by simp at z; simp [z])) (fun z => hr (List.mem_cons_of_mem _ z)) b
  | _, _, .loc (l := l) h => .loc (by rw [List.getElem?_append_left (List.getElem?_eq_some_iff.mp h).1]; exact h)
  | _, _, .fn h => .fn h
theorem RDs.take_in {p : Addr} : ∀ {vs : List V} {ds : List D}, RDs K (mg.add p) μ H vs ds → RDs K mg (μ ++ [p]) H vs ds
  | _, _, .nil => .nil
  | _, _, .cons h r => .cons (RD.take_in h) (RDs.take_in r)
theorem RDk.take_in {p : Addr} : ∀ {vs : List (Key × V)} {ds : List (D × D)}, RDk K (mg.add p) μ H vs ds → RDk K mg (μ ++ [p]) H vs ds
  | _, _, .nil => .nil
  | _, _, .cons h r => .cons (RD.take_in h) (RDk.take_in r)
theorem RDn.take_in {p : Addr} : ∀ {vs : List (NestedKey × Addr × V)} {ds : List (D × D)}, RDn K (mg.add p) μ H vs ds → RDn K mg (μ ++ [p]) H vs ds
  | _, _, .nil => .nil
  | _, _, .cons e k h r => .cons e (RD.take_in k) (RD.take_in h) (RDn.take_in r)
end
theorem Rel.take_inO {p : Addr} (R : Rel K (mg.add p) μ st H) {u : O} (h : ObjR K mg (μ ++ [p]) H p u) : Rel K mg (μ ++ [p]) (st ++ [u]) H := by
  have hp : p ∉ μ := (R.res p List.mem_cons_self).1
  have hpr : p ∉ mg.ρ := (List.nodup_cons.mp R.rn).1
  refine ⟨by simp [R.len], List.nodup_append.mpr ⟨R.nd, by simp, fun a ha b hb e => by simp at hb; subst hb; subst e; exact hp ha⟩, (List.nodup_cons.mp R.rn).2, fun a ha => ⟨fun z => ?_, (R.res a (List.mem_cons_of_mem _ ha)).2⟩, fun l a o h1 h2 => ?_⟩
  · rcases List.mem_append.mp z with z | z
    · exact (R.res a (List.mem_cons_of_mem _ ha)).1 z
    · simp at z; subst z; exact hpr ha
  · by_cases hl : l < st.length
    · rw [List.getElem?_append_left (by rw [R.len]; exact hl)] at h1
      rw [List.getElem?_append_left hl] at h2
      have q := R.obj l a o h1 h2
      cases o with
      | lst es => obtain ⟨ws, q1, q2⟩ := q; exact ⟨ws, q1, q2.take_in⟩
      | dct t kds => cases t <;> (obtain ⟨ws, q1, q2⟩ := q; exact ⟨ws, q1, q2.take_in⟩)
      | ins c fs => obtain ⟨C, dx, ws, q0, q1, q2⟩ := q; exact ⟨C, dx, ws, q0, q1, q2.take_in⟩
    · rw [List.getElem?_append_right (by omega)] at h2
      rw [List.getElem?_append_right (by rw [R.len]; omega)] at h1
      have e : l - st.length = 0 := by
        have := (List.getElem?_eq_some_iff.mp h2).1
        simp at this; omega
      rw [e] at h2
      rw [R.len, e] at h1
      simp at h1 h2
      subst h1; subst h2
      exact h
theorem Rel.take_in {p : Addr} (R : Rel K (mg.add p) μ st H) {vs : List V} {ds : List D} (h : H p = some (.lst vs)) (r : RDs K (mg.add p) μ H vs ds) : Rel K mg (μ ++ [p]) (st ++ [.lst ds]) H := R.take_inO ⟨vs, h, r.take_in⟩
mutual
theorem RD.free {p : Addr} : ∀ {v : V} {d : D}, RD K (mg.add p) μ H v d → RD K mg μ H v d
  | _, _, .non => .non
  | _, _, .bl b => .bl b
  | _, _, .int i => .int i
  | _, _, .str x => .str x
  | _, _, .tup h r => .tup h (RDs.free r)
  | _, _, .lst hn hr h r => .lst hn (fun z => hr (List.mem_cons_of_mem _ z)) h (RDs.free r)
  | _, _, .rol h r => .rol (by
      rcases h with ⟨hn, hr, h⟩ | h
      · exact .inl ⟨hn, fun z => hr (List.mem_cons_of_mem _ z), h⟩
      · exact .inr h) (RDs.free r)
  | _, _, .dctA h hn hr r => .dctA h hn (fun z => hr (List.mem_cons_of_mem _ z)) (RDk.free r)
  | _, _, .dctN h hn hr r => .dctN h hn (fun z => hr (List.mem_cons_of_mem _ z)) (RDn.free r)
  | _, _, .rng h hn hr b => .rng h hn (fun z => hr (List.mem_cons_of_mem _ z)) b
  | _, _, .loc h => .loc h
  | _, _, .fn h => .fn h
theorem RDs.free {p : Addr} : ∀ {vs : List V} {ds : List D}, RDs K (mg.add p) μ H vs ds → RDs K mg μ H vs ds
  | _, _, .nil => .nil
  | _, _, .cons h r => .cons (RD.free h) (RDs.free r)
theorem RDk.free {p : Addr} : ∀ {vs : List (Key × V)} {ds : List (D × D)}, RDk K (mg.add p) μ H vs ds → RDk K mg μ H vs ds
  | _, _, .nil => .nil
  | _, _, .cons h r => .cons (RD.free h) (RDk.free r)
theorem RDn.free {p : Addr} : ∀ {vs : List (NestedKey × Addr × V)} {ds : List (D × D)}, RDn K (mg.add p) μ H vs ds → RDn K mg μ H vs ds
  | _, _, .nil => .nil
  | _, _, .cons e k h r => .cons e (RD.free k) (RD.free h) (RDn.free r)
end
theorem Rel.free {p : Addr} (R : Rel K (mg.add p) μ st H) : Rel K mg μ st H :=
  ⟨R.len, R.nd, (List.nodup_cons.mp R.rn).2, fun a ha => R.res a (List.mem_cons_of_mem _ ha), fun l a o h1 h2 => by
    have q := R.obj l a o h1 h2
    cases o with
    | lst es => obtain ⟨ws, q1, q2⟩ := q; exact ⟨ws, q1, q2.free⟩
    | dct t kds => cases t <;> (obtain ⟨ws, q1, q2⟩ := q; exact ⟨ws, q1, q2.free⟩)
    | ins c fs => obtain ⟨C, dx, ws, q0, q1, q2⟩ := q; exact ⟨C, dx, ws, q0, q1, q2.free⟩⟩
mutual
/-- to a place that is not known no value refers -/
theorem RD.keep {p : Addr} (R : Rel K mg μ st H) (h0 : H p = none) (hk : K.lookup p = none ∨ True) : ∀ {v : V} {d : D}, RD K mg μ H v d → RD K (mg.add p) μ H v d
  | _, _, .non => .non
  | _, _, .bl b => .bl b
  | _, _, .int i => .int i
  | _, _, .str x => .str x
  | _, _, .tup h r => .tup h (RDs.keep R h0 hk r)
  | _, _, .lst hn hr h r => .lst hn (fun z => by
      rcases List.mem_cons.mp z with z | z
      · rw [z, h0] at h; cases h
      · exact hr z) h (RDs.keep R h0 hk r)
  | _, _, .rol h r => .rol (by
      rcases h with ⟨hn, hr, h⟩ | h
      · exact .inl ⟨hn, fun z => by
          rcases List.mem_cons.mp z with z | z
          · rcases h with h | ⟨o, h⟩ <;> (rw [z, h0] at h; cases h)
          · exact hr z, h⟩
      · exact .inr h) (RDs.keep R h0 hk r)
  | _, _, .dctA h hn hr r => .dctA h hn (fun z => by
      rcases List.mem_cons.mp z with z | z
      · rw [z, h0] at h; cases h
      · exact hr z) (RDk.keep R h0 hk r)
  | _, _, .dctN h hn hr r => .dctN h hn (fun z => by
      rcases List.mem_cons.mp z with z | z
      · rw [z, h0] at h; cases h
      · exact hr z) (RDn.keep R h0 hk r)
  | _, _, .rng h hn hr b => .rng h hn (fun z => by
      rcases List.mem_cons.mp z with z | z
      · rw [z, h0] at h; cases h
      · exact hr z) b
  | _, _, .loc h => .loc h
  | _, _, .fn h => .fn h
theorem RDs.keep {p : Addr} (R : Rel K mg μ st H) (h0 : H p = none) (hk : K.lookup p = none ∨ True) : ∀ {vs : List V} {ds : List D}, RDs K mg μ H vs ds → RDs K (mg.add p) μ H vs ds
  | _, _, .nil => .nil
  | _, _, .cons h r => .cons (RD.keep R h0 hk h) (RDs.keep R h0 hk r)
theorem RDk.keep {p : Addr} (R : Rel K mg μ st H) (h0 : H p = none) (hk : K.lookup p = none ∨ True) : ∀ {vs : List (Key × V)} {ds : List (D × D)}, RDk K mg μ H vs ds → RDk K (mg.add p) μ H vs ds
  | _, _, .nil => .nil
  | _, _, .cons h r => .cons (RD.keep R h0 hk h) (RDk.keep R h0 hk r)
theorem RDn.keep {p : Addr} (R : Rel K mg μ st H) (h0 : H p = none) (hk : K.lookup p = none ∨ True) : ∀ {vs : List (NestedKey × Addr × V)} {ds : List (D × D)}, RDn K mg μ H vs ds → RDn K (mg.add p) μ H vs ds
  | _, _, .nil => .nil
  | _, _, .cons e k h r => .cons e (RD.keep R h0 hk k) (RD.keep R h0 hk h) (RDn.keep R h0 hk r)
end
/-- a new list at p, to which no value refers -/
theorem Rel.holdO (R : Rel K mg μ st H) {p : Addr} {ob : HO} (h0 : H p = none) (nt : ∀ xs, ob ≠ .tup xs) : Rel K (mg.add p) μ st (upd H p ob) := by
  have hp : p ∉ μ := R.new h0
  have hr : p ∉ mg.ρ := fun z => by
    obtain ⟨_, o, e, _⟩ := R.res p z
    rw [h0] at e; cases e
  have s : Step μ H μ (upd H p ob) := Step.laid h0
  refine ⟨R.len, R.nd, List.nodup_cons.mpr ⟨hr, R.rn⟩, fun a ha => ?_, fun l a o h1 h2 => ?_⟩
  · rcases List.mem_cons.mp ha with rfl | ha
    · exact ⟨hp, ob, upd_same, nt⟩
    · obtain ⟨x, o, e, nt'⟩ := R.res a ha
      exact ⟨x, o, by rw [upd_ne (ne_of_none e h0)]; exact e, nt'⟩
  · have q := R.obj l a o h1 h2
    have R' : Rel K mg μ st (upd H p ob) := R.laid h0
    cases o with
    | lst es =>
      obtain ⟨ws, q1, q2⟩ := q
      refine ⟨ws, by rw [upd_ne (ne_of_none q1 h0)]; exact q1, ?_⟩
      exact RDs.step R s (q2.keep R h0 (.inr trivial))
    | dct t kds =>
      cases t with
      | false =>
        obtain ⟨ws, q1, q2⟩ := q
        exact ⟨ws, by rw [upd_ne (ne_of_none q1 h0)]; exact q1, RDk.step R s (q2.keep R h0 (.inr trivial))⟩
      | true =>
        obtain ⟨ws, q1, q2⟩ := q
        exact ⟨ws, by rw [upd_ne (ne_of_none q1 h0)]; exact q1, RDn.step R s (q2.keep R h0 (.inr trivial))⟩
    | ins c fs =>
      obtain ⟨C, dx, ws, q0, q1, q2⟩ := q
      refine ⟨C, dx, ws, q0, by rw [upd_ne (ne_of_none q1 h0)]; exact q1, ?_⟩
      exact RDs.step R s (q2.keep R h0 (.inr trivial))
theorem Rel.hold (R : Rel K mg μ st H) {p : Addr} {u : List V} (h0 : H p = none) : Rel K (mg.add p) μ st (upd H p (.lst u)) := R.holdO h0 (fun _ z => nomatch z)
/-- an object of the store is changed -/
theorem Rel.putO (R : Rel K mg μ st H) {l : Nat} {a : Addr} {ob : HO} {u : O} (hl : μ[l]? = some a) (r : ObjR K mg μ (upd H a ob) a u) : Rel K mg μ (st.set l u) (upd H a ob) := by
  have s : Step μ H μ (upd H a ob) := Step.put hl
  refine ⟨by simp [R.len], R.nd, R.rn, fun b hb => ⟨(R.res b hb).1, let ⟨o, e, nt⟩ := (R.res b hb).2; ⟨o, s.keep b _ e (R.res b hb).1, nt⟩⟩, fun i b o h1 h2 => ?_⟩
  have hll := (List.getElem?_eq_some_iff.mp hl).1
  by_cases hi : i = l
  · subst hi
    rw [hl] at h1; cases h1
    rw [List.getElem?_set_self (by rw [← R.len]; exact hll)] at h2
    cases h2
    exact r
  · rw [List.getElem?_set_ne (Ne.symm hi)] at h2
    have hb : b ≠ a := fun z => by
      subst z
      obtain ⟨i1, e1⟩ := List.getElem?_eq_some_iff.mp h1
      obtain ⟨i2, e2⟩ := List.getElem?_eq_some_iff.mp hl
      exact hi (by obtain ⟨i1, e1⟩ := List.getElem?_eq_some_iff.mp h1; obtain ⟨i2, e2⟩ := List.getElem?_eq_some_iff.mp hl; exact (List.getElem_inj R.nd).mp (e1.trans e2.symm))
    exact (R.obj i b o h1 h2).step R s fun u e => by rw [upd_ne hb]; exact e
theorem Rel.put (R : Rel K mg μ st H) {l : Nat} {a : Addr} {vs : List V} {ds : List D} (hl : μ[l]? = some a) (r : RDs K mg μ H vs ds) : Rel K mg μ (st.set l (.lst ds)) (upd H a (.lst vs)) :=
  R.putO hl ⟨vs, upd_same, r.step R (Step.put hl)⟩
end

/-! ### the frame -/
structure REnv (K : PySem.W.Frag) (mg : Ctx) (μ : List Addr) (H : Hp) (σ : L2.St) (env : Env) : Prop where
  len : σ.length = env.length
  val : ∀ (i : Nat) (d : D), env[i]? = some (some d) → ∃ v, σ[i]? = some (some v) ∧ RD K mg μ H v d
section
variable {K : PySem.W.Frag} {mg : Ctx} {μ μ' : List Addr} {H H' : Hp} {st : Store} {σ : L2.St} {env : Env}
theorem REnv.step (e : REnv K mg μ H σ env) (R : Rel K mg μ st H) (s : Step μ H μ' H') : REnv K mg μ' H' σ env :=
  ⟨e.len, fun i d h => let ⟨v, h1, h2⟩ := e.val i d h; ⟨v, h1, h2.step R s⟩⟩
theorem REnv.set (e : REnv K mg μ H σ env) {i : Nat} {v : V} {d : D} (r : RD K mg μ H v d) : REnv K mg μ H (σ.set i (some v)) (env.set i (some d)) := by
  refine ⟨by simp [e.len], fun j u h => ?_⟩
  by_cases hj : i = j
  · subst hj
    have hl : i < env.length := by
      have := (List.getElem?_eq_some_iff.mp h).1
      simpa using this
    rw [List.getElem?_set_self hl] at h
    cases h
    exact ⟨v, List.getElem?_set_self (by rw [e.len]; exact hl), r⟩
  · rw [List.getElem?_set_ne hj] at h
    rw [List.getElem?_set_ne hj]
    exact e.val j u h
theorem REnv.wipe (e : REnv K mg μ H σ env) : ∀ vs : List Nat, REnv K mg μ H (L2.wipe σ vs) (Mi.wipe env vs)
  | [] => e
  | v :: vs => by
    have q := REnv.wipe e vs
    refine ⟨?_, fun j u h => ?_⟩
    · show ((L2.wipe σ vs).set v none).length = ((Mi.wipe env vs).set v none).length
      simp [q.len]
    · have h' : ((Mi.wipe env vs).set v none)[j]? = some (some u) := h
      by_cases hj : v = j
      · subst hj
        by_cases hl : v < (Mi.wipe env vs).length
        · rw [List.getElem?_set_self hl] at h'; cases h'
        · rw [List.getElem?_eq_none (by simp; omega)] at h'; cases h'
      · rw [List.getElem?_set_ne hj] at h'
        obtain ⟨x, h1, h2⟩ := q.val j u h'
        refine ⟨x, ?_, h2⟩
        show ((L2.wipe σ vs).set v none)[j]? = some (some x)
        rw [List.getElem?_set_ne hj]
        exact h1
end

/-! ### judgements -/
structure Base where
  μ : List Addr
  ρ : List Addr
  H : Hp
abbrev Wish := Exn → Env → Store → Prop
structure Now (K : PySem.W.Frag) (mg : Ctx) (B : Base) (μ : List Addr) (st : Store) (H : Hp) (σ : L2.St) (env : Env) : Prop where
  step : Step B.μ B.H μ H
  rel : Rel K mg μ st H
  env : REnv K mg μ H σ env
theorem Now.next {K : PySem.W.Frag} {mg : Ctx} {B : Base} {μ μ' : List Addr} {st st' : Store} {H H' : Hp} {σ : L2.St} {env : Env} (n : Now K mg B μ st H σ env) (s : Step μ H μ' H') (R : Rel K mg μ' st' H') : Now K mg B μ' st' H' σ env :=
  ⟨n.step.trans n.rel s, R, n.env.step n.rel s⟩

section
variable (K : PySem.W.Frag) (mg : Ctx) (B : Base) (W : Wish)
def Res (μ : List Addr) (H : Hp) (env : Env) (r : R D) (Q : VK) : Prop := match r with
  | .ok d st' => ∀ μ' H' v, Step μ H μ' H' → Rel K mg μ' st' H' → RD K mg μ' H' v d → Q v H'
  | .ex x st' => W x env st'
def ResA (μ : List Addr) (H : Hp) (env : Env) (r : R (List D)) (Q : List V → Hp → Prop) : Prop := match r with
  | .ok ds st' => ∀ μ' H' vs, Step μ H μ' H' → Rel K mg μ' st' H' → RDs K mg μ' H' vs ds → Q vs H'
  | .ex x st' => W x env st'
/-- a new list -/
def ResL (μ : List Addr) (H : Hp) (env : Env) (r : R (List D)) (Q : VK) : Prop := match r with
  | .ok ds st' => ∀ μ' H' p vs, Step μ H μ' H' → Rel K (mg.add p) μ' st' H' → H p = none → H' p = some (.lst vs) → RDs K (mg.add p) μ' H' vs ds → Q (.ref p) H'
  | .ex x st' => W x env st'
def ResT (μ : List Addr) (H : Hp) (env : Env) (r : R Bool) (Q : Bool → Hp → Prop) : Prop := match r with
  | .ok b st' => ∀ μ' H', Step μ H μ' H' → Rel K mg μ' st' H' → Q b H'
  | .ex x st' => W x env st'
def tM (m : E) : TE := fun σ H Q => ∃ μ st env, Now K mg B μ st H σ env ∧ ∃ r, m env st = some r ∧ Res K mg W μ H env r Q
def tMA (m : EL) : TA := fun σ H Q => ∃ μ st env, Now K mg B μ st H σ env ∧ ∃ r, m env st = some r ∧ ResA K mg W μ H env r Q
def tML (m : EL) : TE := fun σ H Q => ∃ μ st env, Now K mg B μ st H σ env ∧ ∃ r, m env st = some r ∧ ResL K mg W μ H env r Q
def tMT (m : T) : TT := fun σ H Q => ∃ μ st env, Now K mg B μ st H σ env ∧ ∃ r, m env st = some r ∧ ResT K mg W μ H env r Q
end
/-- the expression e computes m -/
abbrev CE (X : Cx) (B : Base) (W : Wish) (e : Expr) (m : E) : Prop := PE X e (tM X.K ⟨X.nm, B.ρ⟩ B W m)
abbrev CA (X : Cx) (B : Base) (W : Wish) (es : List Expr) (m : EL) : Prop := PA X es (tMA X.K ⟨X.nm, B.ρ⟩ B W m)
abbrev CL (X : Cx) (B : Base) (W : Wish) (e : Expr) (m : EL) : Prop := PE X e (tML X.K ⟨X.nm, B.ρ⟩ B W m)
abbrev CT (X : Cx) (B : Base) (W : Wish) (e : Expr) (m : T) : Prop := PT X e (tMT X.K ⟨X.nm, B.ρ⟩ B W m)

theorem PE.imp {X : Cx} {e : Expr} {t t' : TE} (h : PE X e t) (k : ∀ σ H Q, t' σ H Q → t σ H Q) : PE X e t' := ⟨fun pins s σ H Q I hw => h.run pins s σ H Q I (k σ H Q hw)⟩
theorem PT.imp {X : Cx} {e : Expr} {t t' : TT} (h : PT X e t) (k : ∀ σ H Q, t' σ H Q → t σ H Q) : PT X e t' := ⟨fun pins s σ H Q I hw => h.run pins s σ H Q I (k σ H Q hw)⟩
theorem PA.imp {X : Cx} {e : List Expr} {t t' : TA} (h : PA X e t) (k : ∀ σ H Q, t' σ H Q → t σ H Q) : PA X e t' := ⟨fun pos pins s σ H Q I hw => h.run pos pins s σ H Q I (k σ H Q hw)⟩
theorem PS.imp {X : Cx} {e : Stmt} {t t' : TS} (h : PS X e t) (k : ∀ D σ H, t' D σ H → t D σ H) : PS X e t' := ⟨fun pins s σ H D I hw => h.run pins s σ H D I (k D σ H hw)⟩

section
variable {K : PySem.W.Frag} {mg : Ctx} {B : Base} {W : Wish} {μ : List Addr} {st : Store} {H : Hp} {σ : L2.St} {env : Env} {β : Type}
theorem bnd_inv {α : Type} {m : M α} {f : α → M β} {r : R β} (h : bnd m f st = some r) : (∃ a st1, m st = some (.ok a st1) ∧ f a st1 = some r) ∨ ∃ x st1, m st = some (.ex x st1) ∧ r = .ex x st1 := by
  unfold bnd at h
  split at h
  · rename_i a st1 e; exact .inl ⟨a, st1, e, h⟩
  · rename_i x st1 e; cases h; exact .inr ⟨x, st1, e, rfl⟩
  · cases h
/-- the first of two steps -/
theorem first {m : E} {k : D → M β} {r : R β} {Q : VK} (n : Now K mg B μ st H σ env) (h : bnd (m env) k st = some r) (hx : ∀ x st1, r = .ex x st1 → W x env st1)
    (ok : ∀ d st1 μ1 H1 v, k d st1 = some r → Step μ H μ1 H1 → Now K mg B μ1 st1 H1 σ env → RD K mg μ1 H1 v d → Q v H1) : tM K mg B W m σ H Q := by
  rcases bnd_inv h with ⟨d, st1, e, h⟩ | ⟨x, st1, e, rfl⟩
  · exact ⟨μ, st, env, n, _, e, fun μ1 H1 v s R r => ok d st1 μ1 H1 v h s (n.next s R) r⟩
  · exact ⟨μ, st, env, n, _, e, hx x st1 rfl⟩
theorem firstA {m : EL} {k : List D → M β} {r : R β} {Q : List V → Hp → Prop} (n : Now K mg B μ st H σ env) (h : bnd (m env) k st = some r) (hx : ∀ x st1, r = .ex x st1 → W x env st1)
    (ok : ∀ ds st1 μ1 H1 vs, k ds st1 = some r → Step μ H μ1 H1 → Now K mg B μ1 st1 H1 σ env → RDs K mg μ1 H1 vs ds → Q vs H1) : tMA K mg B W m σ H Q := by
  rcases bnd_inv h with ⟨d, st1, e, h⟩ | ⟨x, st1, e, rfl⟩
  · exact ⟨μ, st, env, n, _, e, fun μ1 H1 v s R r => ok d st1 μ1 H1 v h s (n.next s R) r⟩
  · exact ⟨μ, st, env, n, _, e, hx x st1 rfl⟩
theorem firstL {m : EL} {k : List D → M β} {r : R β} {Q : VK} (n : Now K mg B μ st H σ env) (h : bnd (m env) k st = some r) (hx : ∀ x st1, r = .ex x st1 → W x env st1)
    (ok : ∀ ds st1 μ1 H1 p vs, k ds st1 = some r → Step μ H μ1 H1 → Now K mg B μ1 st1 H1 σ env → Rel K (mg.add p) μ1 st1 H1 → H p = none → H1 p = some (.lst vs) → RDs K (mg.add p) μ1 H1 vs ds → Q (.ref p) H1) : tML K mg B W m σ H Q := by
  rcases bnd_inv h with ⟨d, st1, e, h⟩ | ⟨x, st1, e, rfl⟩
  · exact ⟨μ, st, env, n, _, e, fun μ1 H1 p vs s R a b r => ok d st1 μ1 H1 p vs h s (n.next s R.free) R a b r⟩
  · exact ⟨μ, st, env, n, _, e, hx x st1 rfl⟩
theorem firstT {m : T} {k : Bool → M β} {r : R β} {Q : Bool → Hp → Prop} (n : Now K mg B μ st H σ env) (h : bnd (m env) k st = some r) (hx : ∀ x st1, r = .ex x st1 → W x env st1)
    (ok : ∀ b st1 μ1 H1, k b st1 = some r → Step μ H μ1 H1 → Now K mg B μ1 st1 H1 σ env → Q b H1) : tMT K mg B W m σ H Q := by
  rcases bnd_inv h with ⟨d, st1, e, h⟩ | ⟨x, st1, e, rfl⟩
  · exact ⟨μ, st, env, n, _, e, fun μ1 H1 s R => ok d st1 μ1 H1 h s (n.next s R)⟩
  · exact ⟨μ, st, env, n, _, e, hx x st1 rfl⟩
theorem res_ex {r : R D} {Q : VK} (h : Res K mg W μ H env r Q) : ∀ x st1, r = .ex x st1 → W x env st1 := fun x st1 e => by subst e; exact h
theorem resA_ex {r : R (List D)} {Q : List V → Hp → Prop} (h : ResA K mg W μ H env r Q) : ∀ x st1, r = .ex x st1 → W x env st1 := fun x st1 e => by subst e; exact h
theorem resL_ex {r : R (List D)} {Q : VK} (h : ResL K mg W μ H env r Q) : ∀ x st1, r = .ex x st1 → W x env st1 := fun x st1 e => by subst e; exact h
theorem resT_ex {r : R Bool} {Q : Bool → Hp → Prop} (h : ResT K mg W μ H env r Q) : ∀ x st1, r = .ex x st1 → W x env st1 := fun x st1 e => by subst e; exact h
theorem need_inv {α : Type} {o : Option α} {r : R α} (h : need o st = some r) : ∃ a, o = some a ∧ r = .ok a st := by
  unfold need at h
  split at h
  · cases h; exact ⟨_, rfl, rfl⟩
  · cases h
theorem look_inv {α : Type} {f : Store → Option α} {r : R α} (h : look f st = some r) : ∃ a, f st = some a ∧ r = .ok a st := by
  unfold look at h
  split at h
  · rename_i a e; cases h; exact ⟨a, e, rfl⟩
  · cases h
theorem ret_inv {α : Type} {a : α} {r : R α} (h : ret a st = some r) : r = .ok a st := by cases h; rfl
/-- the same as ever in the end -/
theorem Res.ok {d : D} {Q : VK} {μ1 : List Addr} {H1 : Hp} {st1 : Store} {v : V} (h : Res K mg W μ H env (.ok d st1) Q) (s : Step μ H μ1 H1) (R : Rel K mg μ1 st1 H1) (r : RD K mg μ1 H1 v d) : Q v H1 := h μ1 H1 v s R r
end
end Mi
end
set_option Elab.async false
set_option linter.all false
set_option autoImplicit false
set_option maxRecDepth 100000
set_option maxHeartbeats 1000000
/-! Mi: the expressions' rules. -/
noncomputable section
namespace Mi
open PySem PySem.Spec PyProof.Rows L2
section
variable {X : Cx} {B : Base} {W : Wish} {a b c e : Expr} {ma mb mc m : E} {pos : Pos}

theorem oklen {n : Nat} (h : okLen n = true) : n ≤ sizeLine := by
  rw [sizeLine_eq]
  exact of_decide_eq_true ((okLen_eq n).symm.trans h)
theorem ce_var {i : Nat} {x : Str} (hN : X.N[i]? = some x) (hv : Vis X.env.scope x) (hd : (x == ("__debug__" : Str)) = false := by decide) (hcd : (x == ("__classdict__" : Str)) = false := by decide) :
    CE X B W (.Name x pos) (eVar i) := by
  refine PE.imp (pe_var hN hv hd hcd) ?_
  rintro σ H Q ⟨μ, st, env, n, r, h, hq⟩
  obtain ⟨d, e, rfl⟩ := need_inv h
  have e' : env[i]? = some (some d) := by
    split at e
    · rename_i u q; cases e; exact q
    · cases e
  obtain ⟨v, h1, h2⟩ := n.env.val i d e'
  exact ⟨v, h1, hq _ _ _ (Step.refl _ _) n.rel h2⟩
theorem tC_of {v : V} {d : D} (h : ∀ (ρ μ : List Addr) (H : Hp), RD X.K ⟨X.nm, ρ⟩ μ H v d) : ∀ (σ : L2.St) (H : Hp) (Q : VK), tM X.K ⟨X.nm, B.ρ⟩ B W (eC d) σ H Q → tC v σ H Q := by
  rintro σ H Q ⟨μ, st, env, n, r, e, hq⟩
  cases ret_inv e
  exact hq _ _ _ (Step.refl _ _) n.rel (h _ _ _)
theorem ce_int {i : Int} {j : Nat} : CE X B W (.Constant (.int i) j pos) (eC (.int i)) := PE.imp pe_int (tC_of fun _ _ _ => .int i)
theorem ce_bl {i : Bool} {j : Nat} : CE X B W (.Constant (.bool i) j pos) (eC (.bl i)) := PE.imp pe_bl (tC_of fun _ _ _ => .bl i)
theorem ce_non {j : Nat} : CE X B W (.Constant .none j pos) (eC .non) := PE.imp pe_non (tC_of fun _ _ _ => .non)
theorem ce_str {x : Str} {j : Nat} : CE X B W (.Constant (.str x) j pos) (eC (.str x)) := PE.imp pe_str (tC_of fun _ _ _ => .str x)
/-- a number of the module's -/
theorem ce_gint {x : Str} {i : Int} (hg : Gl X x) (hm : ∃ t, X.mg x = some (.int i t)) (hd : (x == ("__debug__" : Str)) = false := by decide) : CE X B W (.Name x pos) (eC (.int i)) := by
  obtain ⟨t, hm⟩ := hm
  exact PE.imp (pe_glob (v := .int i) hg hm ⟨t, rfl⟩ hd) (tC_of fun _ _ _ => .int i)
theorem ce_gstr {x y : Str} (hg : Gl X x) (hm : ∃ t, X.mg x = some (.str y t)) (hd : (x == ("__debug__" : Str)) = false := by decide) : CE X B W (.Name x pos) (eC (.str y)) := by
  obtain ⟨t, hm⟩ := hm
  exact PE.imp (pe_glob (v := .str y) hg hm ⟨t, rfl⟩ hd) (tC_of fun _ _ _ => .str y)
/-- a def as a value -/
theorem ce_gfn {x : Str} {f : Addr} (hg : Gl X x) (hm : X.mg x = some (.ref f)) (hd : (x == ("__debug__" : Str)) = false := by decide) : CE X B W (.Name x pos) (eC (.fn x)) :=
  PE.imp (pe_glob (v := .ref f) hg hm rfl hd) (tC_of fun _ _ _ => .fn hm)

/-! ### operators -/
def OpS (X : Cx) (op : Operator) (f : Op) : Prop := ∃ r : R2, OpR X (binaryOp op) r ∧ ∀ {ρ μ : List Addr} {st : Store} {H : Hp} {v u : V} {x y d : D} {Q : VK}, Rel X.K ⟨X.nm, ρ⟩ μ st H → RD X.K ⟨X.nm, ρ⟩ μ H v x → RD X.K ⟨X.nm, ρ⟩ μ H u y → f x y = some d →
  (∀ w H', Step μ H μ H' → Rel X.K ⟨X.nm, ρ⟩ μ st H' → RD X.K ⟨X.nm, ρ⟩ μ H' w d → Q w H') → r v u H Q
theorem ce_bin {op : Operator} {f : Op} (ho : OpS X op f) (ha : CE X B W a ma) (hb : CE X B W b mb) : CE X B W (.BinOp a op b pos) (eBin f ma mb) := by
  obtain ⟨r, hr, hs⟩ := ho
  refine PE.imp (pe_op hr ha hb) ?_
  rintro σ H Q ⟨μ, st, env, n, r, h, hq⟩
  refine first n h (res_ex hq) fun d st1 μ1 H1 v h1 s1 n1 r1 => ?_
  refine first n1 h1 (res_ex hq) fun d2 st2 μ2 H2 u h2 s2 n2 r2 => ?_
  obtain ⟨d3, e3, rfl⟩ := need_inv h2
  exact hs n2.rel (r1.step n1.rel s2) r2 e3 fun w H3 s3 R3 r3 => hq _ _ _ ((s1.trans n1.rel s2).trans n2.rel s3) R3 r3
theorem RDs.nil_iff {K : PySem.W.Frag} {mg : Ctx} {μ : List Addr} {H : Hp} {vs : List V} {ds : List D} (r : RDs K mg μ H vs ds) : vs = [] ↔ ds = [] := by
  cases r <;> simp
theorem ops_add : OpS X .Add oAdd := by
  refine ⟨_, (op_add.or op_add_str).or op_catA, ?_⟩
  intro ρ μ st H v u x y d Q R rv ru h q
  cases x <;> cases y <;> simp only [oAdd] at h <;> try (cases h; done)
  · cases h
    cases rv; cases ru
    exact .inl (.inl ⟨_, _, rfl, rfl, q _ _ (Step.refl _ _) R (.int _)⟩)
  · split at h
    · rename_i hz
      cases h
      cases rv; cases ru
      exact .inl (.inr ⟨_, _, rfl, rfl, oklen hz, q _ _ (Step.refl _ _) R (.str _)⟩)
    · cases h
  · split at h
    · rename_i xs ys hz
      cases h
      cases rv with
      | @tup a vs _ ha ra =>
        cases ru with
        | @tup b ws _ hb rb =>
          refine .inr ⟨a, b, vs, ws, rfl, rfl, SqT.of ha, SqT.of hb, by rw [ra.length, rb.length]; exact oklen hz, fun e => ?_, fun e1 e2 => ?_, fun e1 e2 p hp => ?_⟩
          · have e' := ra.nil_iff.mp e
            subst e'
            exact q _ _ (Step.refl _ _) R (.tup hb rb)
          · have e' := rb.nil_iff.mp e2
            subst e'
            rw [List.append_nil] at q
            exact q _ _ (Step.refl _ _) R (.tup ha ra)
          · have s : Step μ H μ (upd H p (.tup (vs ++ ws))) := Step.laid hp
            exact q _ _ s (R.laid hp) (.tup upd_same ((ra.app rb).step R s))
    · cases h
theorem ops_sub : OpS X .Sub oSub := by
  refine ⟨_, op_sub, ?_⟩
  intro ρ μ st H v u x y d Q R rv ru h q
  cases x <;> cases y <;> simp only [oSub] at h <;> try (cases h; done)
  cases h; cases rv; cases ru
  exact ⟨_, _, rfl, rfl, q _ _ (Step.refl _ _) R (.int _)⟩
theorem ops_mul : OpS X .Mult oMul := by
  refine ⟨_, op_mul, ?_⟩
  intro ρ μ st H v u x y d Q R rv ru h q
  cases x <;> cases y <;> simp only [oMul] at h <;> try (cases h; done)
  split at h
  · rename_i i j hz
    cases h; cases rv; cases ru
    refine ⟨_, _, rfl, rfl, ?_, q _ _ (Step.refl _ _) R (.int _)⟩
    simp only [mulOk_eq, Bool.or_eq_true, Bool.and_eq_true, decide_eq_true_eq] at hz
    exact hz
  · cases h
theorem ops_div : OpS X .FloorDiv oDiv := by
  refine ⟨_, op_fdiv, ?_⟩
  intro ρ μ st H v u x y d Q R rv ru h q
  cases x <;> cases y <;> simp only [oDiv] at h <;> try (cases h; done)
  split at h
  · rename_i i j hz
    cases h; cases rv; cases ru
    refine ⟨_, _, rfl, rfl, ?_, q _ _ (Step.refl _ _) R (.int _)⟩
    simp only [divOk_eq, Bool.and_eq_true, decide_eq_true_eq] at hz
    exact hz
  · cases h
theorem ops_mod : OpS X .Mod oMod := by
  refine ⟨_, op_mod, ?_⟩
  intro ρ μ st H v u x y d Q R rv ru h q
  cases x <;> cases y <;> simp only [oMod] at h <;> try (cases h; done)
  split at h
  · rename_i i j hz
    cases h; cases rv; cases ru
    exact ⟨_, _, rfl, rfl, of_decide_eq_true hz, q _ _ (Step.refl _ _) R (.int _)⟩
  · cases h
theorem ops_pow : OpS X .Pow oPow := by
  refine ⟨_, op_pow, ?_⟩
  intro ρ μ st H v u x y d Q R rv ru h q
  cases x <;> cases y <;> simp only [oPow] at h <;> try (cases h; done)
  split at h
  · rename_i i j hz
    cases h; cases rv; cases ru
    refine ⟨_, _, rfl, rfl, ?_, q _ _ (Step.refl _ _) R (.int _)⟩
    simp only [powOk_eq, Bool.and_eq_true, decide_eq_true_eq] at hz
    exact ⟨hz.1.1, hz.1.2, hz.2⟩
  · cases h
theorem ce_neg (ha : CE X B W a ma) : CE X B W (.UnaryOp .USub a pos) (eNeg ma) := by
  refine PE.imp (pe_un un_neg ha) ?_
  rintro σ H Q ⟨μ, st, env, n, r, h, hq⟩
  refine first n h (res_ex hq) fun d st1 μ1 H1 v h1 s1 n1 r1 => ?_
  obtain ⟨d2, e2, rfl⟩ := need_inv h1
  cases d <;> simp only at e2 <;> try (cases e2; done)
  cases e2; cases r1
  exact ⟨_, rfl, hq _ _ _ s1 n1.rel (.int _)⟩

/-! ### lists of arguments, tuples, lists -/
theorem ca_nil : CA X B W [] eNil := by
  refine PA.imp pa_nil ?_
  rintro σ H Q ⟨μ, st, env, n, r, h, hq⟩
  cases ret_inv h
  exact hq _ _ _ (Step.refl _ _) n.rel .nil
theorem ca_cons {es : List Expr} {mr : EL} (ha : CE X B W a ma) (hr : CA X B W es mr) (hs : starEach (a :: es) X.env = (false, eval a X.env) :: starEach es X.env := by rfl) : CA X B W (a :: es) (eCons ma mr) := by
  refine PA.imp (pa_cons ha hr hs) ?_
  rintro σ H Q ⟨μ, st, env, n, r, h, hq⟩
  refine first n h (resA_ex hq) fun d st1 μ1 H1 v h1 s1 n1 r1 => ?_
  refine firstA n1 h1 (resA_ex hq) fun ds st2 μ2 H2 vs h2 s2 n2 r2 => ?_
  cases ret_inv h2
  exact hq _ _ _ (s1.trans n1.rel s2) n2.rel (.cons (r1.step n1.rel s2) r2)
theorem ce_tup {es : List Expr} {mr : EL} {k : Nat} (h : CA X B W es mr) : CE X B W (.Tuple es k pos) (eTup mr) := by
  refine PE.imp (pe_tup h) ?_
  rintro σ H Q ⟨μ, st, env, n, r, h, hq⟩
  refine firstA n h (res_ex hq) fun ds st1 μ1 H1 vs h1 s1 n1 r1 => ?_
  split at h1
  · rename_i hz
    cases ret_inv h1
    refine ⟨by rw [r1.length]; exact oklen hz, fun p hp => ?_⟩
    have s : Step μ1 H1 μ1 (upd H1 p (.tup vs)) := Step.laid hp
    exact hq _ _ _ (s1.trans n1.rel s) (n1.rel.laid hp) (.tup upd_same (r1.step n1.rel s))
  · cases h1
/-- a new list's place is no place of the store's -/
theorem laid_list {K : PySem.W.Frag} {mg : Ctx} {μ μ1 : List Addr} {H H1 : Hp} {st st1 : Store} {ds : List D} {vs : List V} {p : Addr} (R : Rel K mg μ st H) (s1 : Step μ H μ1 H1) (R1 : Rel K mg μ1 st1 H1) (r : RDs K mg μ1 H1 vs ds) (hp : H1 p = none) :
    Step μ H μ1 (upd H1 p (.lst vs)) ∧ Rel K (mg.add p) μ1 st1 (upd H1 p (.lst vs)) ∧ H p = none ∧ (upd H1 p (.lst vs)) p = some (.lst vs) ∧ RDs K (mg.add p) μ1 (upd H1 p (.lst vs)) vs ds := by
  have s : Step μ1 H1 μ1 (upd H1 p (.lst vs)) := Step.laid hp
  have hm := R1.new hp
  refine ⟨s1.trans R1 s, R1.hold hp, s1.fresh hp fun z => ?_, upd_same, RDs.step R1 s (r.keep R1 hp (.inr trivial))⟩
  obtain ⟨⟨ν, rfl, _⟩, _⟩ := s1
  exact hm (List.mem_append_left _ z)
theorem cl_disp {es : List Expr} {mr : EL} (h : CA X B W es mr) : CL X B W (.List es pos) (lDisp mr) := by
  refine PE.imp (pe_lst h) ?_
  rintro σ H Q ⟨μ, st, env, n, r, h, hq⟩
  refine firstA n h (resL_ex hq) fun ds st1 μ1 H1 vs h1 s1 n1 r1 => ?_
  split at h1
  · rename_i hz
    cases ret_inv h1
    refine ⟨by rw [r1.length]; exact oklen hz, fun p hp => ?_⟩
    obtain ⟨a1, a2, a3, a4, a5⟩ := laid_list n.rel s1 n1.rel r1 hp
    exact hq _ _ _ _ a1 a2 a3 a4 a5
  · cases h1
/-- a new list as a value -/
theorem ce_l {ml : EL} (h : CL X B W e ml) : CE X B W e (eL ml) := by
  refine PE.imp h ?_
  rintro σ H Q ⟨μ, st, env, n, r, h, hq⟩
  refine firstL n h (res_ex hq) fun ds st1 μ1 H1 p vs h1 s1 n1 R1 f1 f2 r1 => ?_
  cases ret_inv h1
  obtain ⟨g1, g2⟩ := R1.res p List.mem_cons_self
  exact hq _ _ _ s1 n1.rel (.lst g1 (List.nodup_cons.mp R1.rn).1 f2 r1.free)
/-- .. as one of the store's -/
theorem ce_new {ml : EL} (h : CL X B W e ml) : CE X B W e (eNew ml) := by
  refine PE.imp h ?_
  rintro σ H Q ⟨μ, st, env, n, r, h, hq⟩
  refine firstL n h (res_ex hq) fun ds st1 μ1 H1 p vs h1 s1 n1 R1 f1 f2 r1 => ?_
  cases h1
  have s2 : Step μ H (μ1 ++ [p]) H1 := by
    obtain ⟨⟨ν, rfl, hν⟩, k⟩ := s1
    exact ⟨⟨ν ++ [p], List.append_assoc .., fun q hq => by
      rcases List.mem_append.mp hq with z | z
      · exact hν q z
      · simp at z; subst z; exact f1⟩, k⟩
  exact hq _ _ _ s2 (R1.take_in f2 r1) (.loc (by rw [← R1.len]; simp))
end
end Mi
end
set_option Elab.async false
set_option linter.all false
set_option autoImplicit false
set_option maxRecDepth 100000
set_option maxHeartbeats 1000000
/-! Mi: dicts, by values. -/
noncomputable section
namespace Mi
open PySem PySem.Spec PyProof.Rows L2

/-! ### keys in the heap -/
mutual
/-- the value is the key, by the abstract heap -/
inductive NkV (H : Hp) : NestedKey → V → Prop where
  | non : NkV H .none .non
  | bl (b : Bool) : NkV H (.num (if b then 1 else 0)) (.bl b)
  | int (i : Int) : NkV H (.num i) (.int i)
  | str (x : Str) : NkV H (.text x) (.str x)
  | tup {a : Addr} {vs : List V} {ks : List NestedKey} : H a = some (.tup vs) → NkVs H ks vs → NkV H (.tup ks) (.ref a)
inductive NkVs (H : Hp) : List NestedKey → List V → Prop where
  | nil : NkVs H [] []
  | cons {k : NestedKey} {v : V} {ks : List NestedKey} {vs : List V} : NkV H k v → NkVs H ks vs → NkVs H (k :: ks) (v :: vs)
end
section
variable {K : PySem.W.Frag} {mg : Ctx} {μ : List Addr} {H : Hp}
mutual
theorem nk_of : ∀ {v : V} {d : D} {k : NestedKey}, RD K mg μ H v d → keyOf d = some k → NkV H k v
  | _, _, _, .non, h => by simp only [keyOf, Option.some.injEq] at h; subst h; exact .non
  | _, _, _, .bl b, h => by simp only [keyOf, Option.some.injEq] at h; subst h; exact .bl b
  | _, _, _, .int i, h => by simp only [keyOf, Option.some.injEq] at h; subst h; exact .int i
  | _, _, _, .str x, h => by simp only [keyOf, Option.some.injEq] at h; subst h; exact .str x
  | _, _, _, .tup ha r, h => by
    simp only [keyOf] at h
    split at h
    · rename_i ks e; cases h; exact .tup ha (nks_of r e)
    · cases h
  | _, _, _, .lst _ _ _ _, h => by simp only [keyOf] at h; cases h
  | _, _, _, .rol _ _, h => by simp only [keyOf] at h; cases h
  | _, _, _, .dctA _ _ _ _, h => by simp only [keyOf] at h; cases h
  | _, _, _, .dctN _ _ _ _, h => by simp only [keyOf] at h; cases h
  | _, _, _, .rng _ _ _ _, h => by simp only [keyOf] at h; cases h
  | _, _, _, .loc _, h => by simp only [keyOf] at h; cases h
  | _, _, _, .fn _, h => by simp only [keyOf] at h; cases h
theorem nks_of : ∀ {vs : List V} {ds : List D} {ks : List NestedKey}, RDs K mg μ H vs ds → keysOf ds = some ks → NkVs H ks vs
  | _, _, _, .nil, h => by simp only [keysOf, Option.some.injEq] at h; subst h; exact .nil
  | _, _, _, .cons r t, h => by
    simp only [keysOf] at h
    split at h
    · rename_i k e
      split at h
      · rename_i ks e2; cases h; exact .cons (nk_of r e) (nks_of t e2)
      · cases h
    · cases h
end
end
section
variable {P : Program} {w : World} {H : Hp} {h : Heap}
mutual
theorem nk_is (ok : HOk P w H h) : ∀ {k : NestedKey} {v : V} {u : Value}, NkV H k v → RelV v u → NestedIs h k u
  | _, _, _, .non, r => by cases r; exact .none
  | _, _, _, .bl b, r => by cases r; exact .bool rfl
  | _, _, _, .int i, r => by obtain ⟨t, rfl⟩ := r; exact .int i t
  | _, _, _, .str x, r => by obtain ⟨t, rfl⟩ := r; exact .text x t
  | _, _, _, .tup ha n, r => by
    cases r
    obtain ⟨_, its, rv, o, h1, h2, nn, h3⟩ := (show ObjOk P w H h _ (.tup _) from ok _ _ ha)
    exact .tup h1 h2 h3 (by simpa using nks_is ok n rv)
theorem nks_is (ok : HOk P w H h) : ∀ {ks : List NestedKey} {vs : List V} {us : List Value}, NkVs H ks vs → Vals vs us → NestedAll h ks us
  | _, _, _, .nil, .nil => .nil
  | _, _, _, .cons n t, .cons r s => .cons (nk_is ok n r) (nks_is ok t s)
end
end

/-! ### which entry -/
theorem atom_inv {d : D} {k : Key} (h : atomKey d = some k) : d = keyD k := by
  cases d <;> simp only [atomKey] at h <;> first | (cases h; done) | (cases h; rfl)
theorem atom_keyD (k : Key) : atomKey (keyD k) = some k := by cases k <;> rfl
theorem kEq_keyD (a b : Key) : kEq (keyD a) (keyD b) = decide (a = b) := by
  unfold kEq
  cases a <;> cases b <;> simp [keyD, keyOf]
theorem tup_inv {d : D} {k : NestedKey} (h : tupKey d = some k) : keyOf d = some k ∧ k.depth ≤ 8 := by
  cases d <;> simp only [tupKey] at h <;> try (cases h; done)
  split at h
  · rename_i k' e
    split at h
    · rename_i hd; cases h; exact ⟨e, hd⟩
    · cases h
  · cases h
theorem kEq_tup {c d : D} {a b : NestedKey} (h : tupKey c = some a) (h' : tupKey d = some b) : kEq c d = decide (a = b) := by
  unfold kEq
  rw [(tup_inv h).1, (tup_inv h').1]
  by_cases e : a = b
  · subst e; simp
  · rw [decide_eq_false (fun z => e (Option.some.inj z)), decide_eq_false e]
theorem rd_of_keyD {K : PySem.W.Frag} {mg : Ctx} {μ : List Addr} {H : Hp} {v : V} {k : Key} (r : RD K mg μ H v (keyD k)) : v = kV k := by
  cases k <;> (cases r; rfl)
section
variable {K : PySem.W.Frag} {mg : Ctx} {μ : List Addr} {H : Hp}
theorem kfind_a (k : Key) : ∀ {kvs : List (Key × V)} {kds : List (D × D)}, RDk K mg μ H kvs kds → (∃ v d, valV kvs k = some v ∧ kFind kds (keyD k) = some d ∧ RD K mg μ H v d) ∨ (valV kvs k = none ∧ kFind kds (keyD k) = none)
  | _, _, .nil => .inr ⟨rfl, rfl⟩
  | _, _, .cons (k := j) (v := v) (d := d) (vs := vs) (ds := ds) r t => by
    by_cases e : j = k
    · subst e
      exact .inl ⟨v, d, valV_pos rfl, by simp [kFind, kEq_keyD], r⟩
    · have e1 : valV ((j, v) :: vs) k = valV vs k := valV_neg e
      have e2 : kFind ((keyD j, d) :: ds) (keyD k) = kFind ds (keyD k) := by simp [kFind, kEq_keyD, e]
      rw [e1, e2]
      exact kfind_a k t
abbrev KN : List (NestedKey × Addr × V) → List (NestedKey × Addr × Value) → Prop := Paired fun (p : NestedKey × Addr × V) (q : NestedKey × Addr × Value) => p.1 = q.1 ∧ p.2.1 = q.2.1 ∧ RelV p.2.2 q.2.2
theorem kfind_n {c : D} {k : NestedKey} (hc : tupKey c = some k) : ∀ {nvs : List (NestedKey × Addr × V)} {kds : List (D × D)} {xs : List (NestedKey × Addr × Value)}, RDn K mg μ H nvs kds → KN nvs xs →
    (∃ v d p u, atKey xs k = some (p, u) ∧ RelV v u ∧ kFind kds c = some d ∧ RD K mg μ H v d) ∨ (atKey xs k = none ∧ kFind kds c = none)
  | _, _, _, .nil, .nil => .inr ⟨rfl, rfl⟩
  | _, _, _, .cons (k := j) (c := c') (d := d) (ds := ds) hc' rk r t, .cons (b := b) (l₂ := bs) h s => by
    obtain ⟨h1, h2, h3⟩ := h
    dsimp only at h1 h2 h3
    by_cases e : j = k
    · subst e
      refine .inl ⟨_, d, b.2.1, b.2.2, ?_, h3, ?_, r⟩
      · simp [atKey, List.find?_cons, ← h1]
      · simp [kFind, kEq_tup hc' hc]
    · have e1 : atKey (b :: bs) k = atKey bs k := by simp [atKey, List.find?_cons, ← h1, e]
      have e2 : kFind ((c', d) :: ds) c = kFind ds c := by simp [kFind, kEq_tup hc' hc, e]
      rw [e1, e2]
      exact kfind_n hc t s
theorem RDk.length : ∀ {kvs : List (Key × V)} {kds : List (D × D)}, RDk K mg μ H kvs kds → kvs.length = kds.length
  | _, _, .nil => rfl
  | _, _, .cons _ t => by rw [List.length_cons, List.length_cons, RDk.length t]
theorem RDn.length : ∀ {kvs : List (NestedKey × Addr × V)} {kds : List (D × D)}, RDn K mg μ H kvs kds → kvs.length = kds.length
  | _, _, .nil => rfl
  | _, _, .cons _ _ _ t => by rw [List.length_cons, List.length_cons, RDn.length t]
theorem kany_a (k : Key) : ∀ {kvs : List (Key × V)} {kds : List (D × D)}, RDk K mg μ H kvs kds → (kds.any fun p => kEq p.1 (keyD k)) = (kvs.any fun kv => decide (kv.1 = k))
  | _, _, .nil => rfl
  | _, _, .cons _ t => by rw [List.any_cons, List.any_cons, kany_a k t, kEq_keyD]
theorem krepl_a {k : Key} {v : V} {d : D} (r : RD K mg μ H v d) : ∀ {kvs : List (Key × V)} {kds : List (D × D)}, RDk K mg μ H kvs kds →
    RDk K mg μ H (kvs.map fun kv => if kv.1 = k then (kv.1, v) else kv) (kds.map fun p => if kEq p.1 (keyD k) then (p.1, d) else p)
  | _, _, .nil => .nil
  | _, _, .cons (k := j) h t => by
    rw [List.map_cons, List.map_cons]
    by_cases e : j = k
    · have q : kEq (keyD j) (keyD k) = true := by rw [kEq_keyD]; exact decide_eq_true e
      rw [if_pos e, if_pos q]
      exact .cons r (krepl_a r t)
    · have q : ¬ kEq (keyD j) (keyD k) = true := by rw [kEq_keyD]; simpa using e
      rw [if_neg e, if_neg q]
      exact .cons h (krepl_a r t)
theorem RDk.app : ∀ {kvs ws : List (Key × V)} {kds es : List (D × D)}, RDk K mg μ H kvs kds → RDk K mg μ H ws es → RDk K mg μ H (kvs ++ ws) (kds ++ es)
  | _, _, _, _, .nil, s => s
  | _, _, _, _, .cons h t, s => .cons h (RDk.app t s)
theorem RDn.app : ∀ {kvs ws : List (NestedKey × Addr × V)} {kds es : List (D × D)}, RDn K mg μ H kvs kds → RDn K mg μ H ws es → RDn K mg μ H (kvs ++ ws) (kds ++ es)
  | _, _, _, _, .nil, s => s
  | _, _, _, _, .cons e k h t, s => .cons e k h (RDn.app t s)
theorem kput_a {k : Key} {v : V} {d : D} {kvs : List (Key × V)} {kds : List (D × D)} (r : RDk K mg μ H kvs kds) (h : RD K mg μ H v d) : RDk K mg μ H (putK kvs k v) (kPut kds (keyD k) d) := by
  unfold putK kPut
  rw [kany_a k r]
  split
  · exact krepl_a h r
  · exact r.app (.cons h .nil)
theorem kdrop_a {k : Key} : ∀ {kvs : List (Key × V)} {kds : List (D × D)}, RDk K mg μ H kvs kds → RDk K mg μ H (dropK kvs k) (kDrop kds (keyD k))
  | _, _, .nil => .nil
  | _, _, .cons (k := j) h t => by
    have ih := kdrop_a (k := k) t
    unfold dropK kDrop at ih ⊢
    rw [List.filter_cons, List.filter_cons, kEq_keyD]
    by_cases e : j = k
    · simpa [e] using ih
    · simpa [e] using RDk.cons h ih
/-- the entries when one more is put in -/
def putN (nvs : List (NestedKey × Addr × V)) (k : NestedKey) (p : Addr) (v : V) : List (NestedKey × Addr × V) :=
  if nvs.any (fun x => decide (x.1 = k)) then nvs.map (fun x => if x.1 = k then (x.1, x.2.1, v) else x) else nvs ++ [(k, p, v)]
theorem kany_n {c : D} {k : NestedKey} (hc : tupKey c = some k) : ∀ {nvs : List (NestedKey × Addr × V)} {kds : List (D × D)}, RDn K mg μ H nvs kds → (kds.any fun p => kEq p.1 c) = (nvs.any fun x => decide (x.1 = k))
  | _, _, .nil => rfl
  | _, _, .cons e _ _ t => by rw [List.any_cons, List.any_cons, kany_n hc t, kEq_tup e hc]
theorem krepl_n {c : D} {k : NestedKey} {v : V} {d : D} (hc : tupKey c = some k) (r : RD K mg μ H v d) : ∀ {nvs : List (NestedKey × Addr × V)} {kds : List (D × D)}, RDn K mg μ H nvs kds →
    RDn K mg μ H (nvs.map fun x => if x.1 = k then (x.1, x.2.1, v) else x) (kds.map fun p => if kEq p.1 c then (p.1, d) else p)
  | _, _, .nil => .nil
  | _, _, .cons (k := j) e rk h t => by
    rw [List.map_cons, List.map_cons]
    dsimp only
    rw [kEq_tup e hc]
    by_cases q : j = k
    · simp only [q, decide_true, if_true]
      exact .cons (by rw [← q]; exact e) rk r (krepl_n hc r t)
    · simp only [q, decide_false, if_false]
      exact .cons e rk h (krepl_n hc r t)
theorem kput_n {c : D} {k : NestedKey} {p : Addr} {v : V} {d : D} {nvs : List (NestedKey × Addr × V)} {kds : List (D × D)} (hc : tupKey c = some k) (rk : RD K mg μ H (.ref p) c) (r : RDn K mg μ H nvs kds) (h : RD K mg μ H v d) : RDn K mg μ H (putN nvs k p v) (kPut kds c d) := by
  unfold putN kPut
  rw [kany_n hc r]
  split
  · exact krepl_n hc h r
  · exact r.app (.cons hc rk h .nil)
theorem kdrop_n {c : D} {k : NestedKey} (hc : tupKey c = some k) : ∀ {nvs : List (NestedKey × Addr × V)} {kds : List (D × D)}, RDn K mg μ H nvs kds → RDn K mg μ H (nvs.filter fun x => decide (x.1 ≠ k)) (kDrop kds c)
  | _, _, .nil => .nil
  | _, _, .cons (k := j) e rk h t => by
    have ih := kdrop_n hc t
    unfold kDrop at ih ⊢
    rw [List.filter_cons, List.filter_cons, kEq_tup e hc]
    by_cases q : j = k
    · simpa [q] using ih
    · simpa [q] using RDn.cons e rk h ih
theorem KN.any (k : NestedKey) : ∀ {nvs : List (NestedKey × Addr × V)} {xs : List (NestedKey × Addr × Value)}, KN nvs xs → (nvs.any fun x => decide (x.1 = k)) = (atKey xs k).isSome
  | _, _, .nil => rfl
  | _, _, .cons (a := a) (b := b) (l₂ := bs) h t => by
    rw [List.any_cons, KN.any k t, h.1]
    by_cases e : b.1 = k
    · simp [atKey, List.find?_cons, e]
    · simp [atKey, List.find?_cons, e]
theorem KN.repl {k : NestedKey} {v : V} {u : Value} (r : RelV v u) : ∀ {nvs : List (NestedKey × Addr × V)} {xs : List (NestedKey × Addr × Value)}, KN nvs xs → KN (nvs.map fun x => if x.1 = k then (x.1, x.2.1, v) else x) (xs.map (putAt k u))
  | _, _, .nil => .nil
  | _, _, .cons (a := a) (b := b) h t => by
    rw [List.map_cons, List.map_cons]
    refine .cons ?_ (KN.repl r t)
    unfold putAt
    rw [h.1]
    by_cases e : b.1 = k
    · rw [if_pos e, if_pos e]; exact ⟨rfl, h.2.1, r⟩
    · rw [if_neg e, if_neg e]; exact h
theorem KN.put {k : NestedKey} {p : Addr} {v : V} {u : Value} {nvs : List (NestedKey × Addr × V)} {xs : List (NestedKey × Addr × Value)} (q : KN nvs xs) (r : RelV v u) : KN (putN nvs k p v) (storedH xs k p u) := by
  unfold putN storedH
  rw [KN.any k q]
  by_cases e : (atKey xs k).isSome = true
  · rw [if_pos e, if_pos e]; exact KN.repl r q
  · rw [if_neg e, if_neg e]; exact Paired.snoc q ⟨rfl, rfl, r⟩
theorem putN_len (nvs : List (NestedKey × Addr × V)) (k : NestedKey) (p : Addr) (v : V) : (putN nvs k p v).length ≤ nvs.length + 1 := by
  unfold putN
  split
  · rw [List.length_map]; omega
  · rw [List.length_append]; simp
end

/-! ### the dict in the heap -/
def DRep (K : PySem.W.Frag) (mg : Ctx) (μ : List Addr) (H : Hp) (a : Addr) : Bool → List (D × D) → Prop
  | false, kds => ∃ kvs, H a = some (.dK kvs) ∧ RDk K mg μ H kvs kds
  | true, kds => ∃ nvs, H a = some (hoN mg.g.w a nvs) ∧ RDn K mg μ H nvs kds
theorem objR_dct {K : PySem.W.Frag} {mg : Ctx} {μ : List Addr} {H : Hp} {a : Addr} {t : Bool} {kds : List (D × D)} : ObjR K mg μ H a (.dct t kds) ↔ DRep K mg μ H a t kds := by cases t <;> exact Iff.rfl
theorem dct_of {K : PySem.W.Frag} {mg : Ctx} {μ : List Addr} {H : Hp} {st : Store} {v : V} {c : D} {t : Bool} {kds : List (D × D)} (R : Rel K mg μ st H) (r : RD K mg μ H v c) (h : dctOf st c = some (t, kds)) : ∃ a, v = .ref a ∧ DRep K mg μ H a t kds := by
  cases c <;> simp only [dctOf] at h <;> try (cases h; done)
  · cases h
    cases r with
    | dctA ha _ _ q => exact ⟨_, rfl, _, ha, q⟩
    | dctN ha _ _ q => exact ⟨_, rfl, _, ha, q⟩
  · split at h
    · rename_i t' kvs e
      cases h
      cases r with
      | loc hl => exact ⟨_, rfl, objR_dct.mp (R.obj _ _ _ hl e)⟩
    · cases h
section
variable {P : Program} {w : World} {H : Hp} {h : Heap} {a : Addr}
theorem dn_of {nvs : List (NestedKey × Addr × V)} (ok : HOk P w H h) (e : H a = some (hoN w a nvs)) : nvs.length ≤ sizeLine ∧ (a == sysModules) = false ∧ ∃ xs, KN nvs xs ∧
    ∃ o es ep, h.get? a = some o ∧ o.ExactDict ∧ o.data = .dict es ep ∧ es.toList = xs.map (entryOfKey (nestedKind P w)) ∧ (xs.map (·.1)).Nodup := by
  obtain ⟨⟨z, y, xs, r, q⟩, _, _⟩ := (show ObjOk P w H h a (.ext _) from ok a _ e)
  exact ⟨z, y, xs, r, q⟩
theorem dn_new {H' : Hp} {h' : Heap} {nvs : List (NestedKey × Addr × V)} {xs : List (NestedKey × Addr × Value)} (z : nvs.length ≤ sizeLine) (hd : (a == sysModules) = false) (r : KN nvs xs) (dd : h'.DictOfH (nestedKind P w) a xs) : ObjOk P w H' h' a (hoN w a nvs) := by
  obtain ⟨o, es, ep, h1, h2, h3, h4, _, h5⟩ := dd
  refine ⟨⟨z, hd, xs, r, o, es, ep, h1, h2, h3, h4, h5⟩, ⟨o, h1⟩, fun g1 g2 p k => ?_⟩
  obtain ⟨z, hd, xs, r, o, es, ep, h1, h2⟩ := p
  exact ⟨z, hd, xs, r, o, es, ep, k o h1, h2⟩
theorem kn_all {K : PySem.W.Frag} {mg : Ctx} {μ : List Addr} (ok : HOk P w H h) : ∀ {nvs : List (NestedKey × Addr × V)} {kds : List (D × D)} {xs : List (NestedKey × Addr × Value)}, RDn K mg μ H nvs kds → KN nvs xs → ∀ x ∈ xs, (nestedKind P w).is h x.1 x.2.1
  | _, _, _, .nil, .nil => fun x hx => nomatch hx
  | _, _, _, .cons e rk r t, .cons q s => fun x hx => by
    rcases List.mem_cons.mp hx with z | hx
    · subst z
      obtain ⟨q1, q2, _⟩ := q
      dsimp only at q1 q2
      rw [← q1, ← q2]
      exact ⟨nk_is ok (nk_of rk (tup_inv e).1) rfl, (tup_inv e).2⟩
    · exact kn_all ok t s x hx
theorem dn_dict {K : PySem.W.Frag} {mg : Ctx} {μ : List Addr} {nvs : List (NestedKey × Addr × V)} {kds : List (D × D)} (ok : HOk P w H h) (e : H a = some (hoN w a nvs)) (r : RDn K mg μ H nvs kds) : nvs.length ≤ sizeLine ∧ (a == sysModules) = false ∧ ∃ xs, KN nvs xs ∧ h.DictOfH (nestedKind P w) a xs := by
  obtain ⟨z, y, xs, q, o, es, ep, h1, h2, h3, h4, h5⟩ := dn_of ok e
  exact ⟨z, y, xs, q, o, es, ep, h1, h2, h3, h4, kn_all ok r q, h5⟩
end
/-- an empty dict is of both kinds -/
theorem empty_n {P : Program} {w : World} {h : Heap} {a : Addr} (d : h.DictOf (mixKind P w) a []) : h.DictOfH (nestedKind P w) a [] := by
  obtain ⟨o, es, ep, h1, h2, h3, h4, h5, _⟩ := d
  have e : es.toList = [] := by
    cases q : es.toList with
    | nil => rfl
    | cons x xs => rw [q] at h5; exact nomatch h5
  exact ⟨o, es, ep, h1, h2, h3, by simpa using e, (fun x hx => nomatch hx), by simp⟩
theorem empty_a {P : Program} {w : World} {h : Heap} {a : Addr} (d : h.DictOfH (nestedKind P w) a []) : h.DictOf (mixKind P w) a [] := by
  obtain ⟨o, es, ep, h1, h2, h3, h4, _, _⟩ := d
  have e : es = #[] := by
    have q : es.toList = [] := by simpa using h4
    exact Array.toList_eq_nil_iff.mp q
  subst e
  refine ⟨o, #[], ep, h1, h2, h3, ?_, ?_, by simp⟩
  · intro x hx; simp at hx
  · exact .nil

/-! ### operations -/
theorem in1_room {A : Around} (hu : A.units + 90 < cLine) : A.in1.units + 8 < cLine := by
  show A.units + 1 + 8 < cLine
  omega
section
variable {X : Cx} {pins : List (Addr × Obj)} {σ : L2.St} {H : Hp} {s : Shared} {a : Addr} {y v : V} {u r : Value} {k : D} {o : Option D} {t : Bool} {kds : List (D × D)} {A : Around} {E : Value → Shared → Prop} {ρ μ : List Addr}
theorem find_cases (h : dFind t kds k = some o) : (t = false ∧ (∃ x, k = keyD x ∧ kFind kds k = o)) ∨ (t = true ∧ (∃ n, tupKey k = some n ∧ kFind kds k = o)) ∨ (kds = [] ∧ o = none ∧ ((∃ n, t = false ∧ tupKey k = some n) ∨ ∃ x, t = true ∧ k = keyD x)) := by
  unfold dFind at h
  by_cases hk : kOk t k = true
  · rw [if_pos hk] at h
    cases h
    cases t with
    | false =>
      simp only [kOk, Bool.false_eq_true, if_false] at hk
      obtain ⟨x, hx⟩ := Option.isSome_iff_exists.mp hk
      exact .inl ⟨rfl, x, atom_inv hx, rfl⟩
    | true =>
      simp only [kOk, if_true] at hk
      obtain ⟨x, hx⟩ := Option.isSome_iff_exists.mp hk
      exact .inr (.inl ⟨rfl, x, hx, rfl⟩)
  · rw [if_neg hk] at h
    by_cases hk2 : (kds.isEmpty && kOk (!t) k) = true
    · rw [if_pos hk2] at h
      cases h
      rw [Bool.and_eq_true] at hk2
      refine .inr (.inr ⟨List.isEmpty_iff.mp hk2.1, rfl, ?_⟩)
      cases t with
      | false =>
        have hk3 := hk2.2
        simp only [kOk, Bool.not_false, if_true] at hk3
        obtain ⟨x, hx⟩ := Option.isSome_iff_exists.mp hk3
        exact .inl ⟨x, rfl, hx⟩
      | true =>
        have hk3 := hk2.2
        simp only [kOk, Bool.not_true, Bool.false_eq_true, if_false] at hk3
        obtain ⟨x, hx⟩ := Option.isSome_iff_exists.mp hk3
        exact .inr ⟨x, rfl, atom_inv hx⟩
    · rw [if_neg hk2] at h; cases h
/-- the ways in which a dict is asked for a key -/
inductive Ask (X : Cx) (h : Heap) (H : Hp) (mg : Ctx) (μ : List Addr) (a : Addr) (u : Value) (o : Option D) : Prop where
  | a (x : Key) (vs : List (Key × Value)) : (mixKind X.prog X.w).is x u = true → (a == sysModules) = false → vs.length ≤ sizeLine → h.DictOf (mixKind X.prog X.w) a vs → (match valueAt vs x, o with | some w', some d => ∃ v, RelV v w' ∧ RD X.K mg μ H v d | none, none => True | _, _ => False) → Ask X h H mg μ a u o
  | n (x : NestedKey) (p : Addr) (xs : List (NestedKey × Addr × Value)) : u = .ref p → (nestedKind X.prog X.w).is h x p → (a == sysModules) = false → xs.length ≤ sizeLine → h.DictOfH (nestedKind X.prog X.w) a xs → (match atKey xs x, o with | some (_, w'), some d => ∃ v, RelV v w' ∧ RD X.K mg μ H v d | none, none => True | _, _ => False) → Ask X h H mg μ a u o
theorem ask (I : Inv X pins σ H s) (rep : DRep X.K ⟨X.nm, ρ⟩ μ H a t kds) (rk : RD X.K ⟨X.nm, ρ⟩ μ H y k) (ry : RelV y u) (h : dFind t kds k = some o) : Ask X s.heap H ⟨X.nm, ρ⟩ μ a u o := by
  have key : ∀ {n : NestedKey}, tupKey k = some n → ∃ p, u = .ref p ∧ (nestedKind X.prog X.w).is s.heap n p := fun {n} hn => by
    have q := nk_is (P := X.prog) (w := X.w) I.hok (nk_of rk (tup_inv hn).1) ry
    cases k <;> simp only [tupKey] at hn <;> try (cases hn; done)
    cases rk with
    | @tup p _ _ _ _ =>
      cases ry
      refine ⟨p, rfl, q, ?_⟩
      split at hn
      · split at hn
        · rename_i hd; cases hn; exact hd
        · cases hn
      · cases hn
  rcases find_cases h with ⟨rfl, x, rfl, hf⟩ | ⟨rfl, n, hn, hf⟩ | ⟨rfl, rfl, ⟨n, rfl, hn⟩ | ⟨x, rfl, rfl⟩⟩
  · obtain ⟨kvs, e, q⟩ := rep
    obtain ⟨z, hd, vs, rel, dd⟩ := dk_of I.hok e
    have hy := rd_of_keyD rk
    subst hy
    refine .a x vs (kV_is (P := X.prog) (w := X.w) ry) hd (by rw [← rel.length]; exact z) dd ?_
    subst hf
    have rv := rel.val x
    rcases kfind_a x q with ⟨v, d, e1, e2, e3⟩ | ⟨e1, e2⟩
    · rw [e1] at rv
      obtain ⟨w', hw, rw'⟩ := RelO.some_of rv
      rw [hw, e2]
      exact ⟨v, rw', e3⟩
    · rw [e1] at rv
      have hw := RelO.none_of rv
      rw [hw, e2]
      trivial
  · obtain ⟨nvs, e, q⟩ := rep
    obtain ⟨z, hd, xs, rel, dd⟩ := dn_dict (P := X.prog) (w := X.w) I.hok e q
    obtain ⟨p, rfl, hp⟩ := key hn
    refine .n n p xs rfl hp hd (by rw [← Paired.length rel]; exact z) dd ?_
    subst hf
    rcases kfind_n hn q rel with ⟨v, d, p', w', e1, e2, e3, e4⟩ | ⟨e1, e2⟩
    · rw [e1, e3]
      exact ⟨v, e2, e4⟩
    · rw [e1, e2]
      trivial
  · obtain ⟨kvs, e, q⟩ := rep
    cases q
    obtain ⟨z, hd, vs, rel, dd⟩ := dk_of I.hok e
    cases rel
    obtain ⟨p, rfl, hp⟩ := key hn
    exact .n n p [] rfl hp hd (Nat.zero_le _) (empty_n dd) trivial
  · obtain ⟨nvs, e, q⟩ := rep
    cases q
    obtain ⟨z, hd, xs, rel, dd⟩ := dn_dict (P := X.prog) (w := X.w) (K := X.K) (mg := ⟨X.nm, ρ⟩) (μ := μ) I.hok e .nil
    cases rel
    have hy := rd_of_keyD rk
    subst hy
    exact .a x [] (kV_is (P := X.prog) (w := X.w) ry) hd (Nat.zero_le _) (empty_a dd) trivial
theorem Ask.isSome_a {vs : List (Key × Value)} {x : Key} {mg : Ctx} (h : (match valueAt vs x, o with | some w', some d => ∃ v, RelV v w' ∧ RD X.K mg μ H v d | none, none => True | _, _ => False)) : (valueAt vs x).isSome = o.isSome := by
  split at h <;> simp_all
theorem Ask.isSome_n {xs : List (NestedKey × Addr × Value)} {x : NestedKey} {mg : Ctx} (h : (match atKey xs x, o with | some (_, w'), some d => ∃ v, RelV v w' ∧ RD X.K mg μ H v d | none, none => True | _, _ => False)) : (atKey xs x).isSome = o.isSome := by
  split at h <;> simp_all
theorem da_in {Q : Value → Shared → Prop} (hu : A.units + 90 < cLine) (I : Inv X pins σ H s) (q : Ask X s.heap H ⟨X.nm, ρ⟩ μ a u o) (h : ∀ s', Inv X pins σ H s' → Q (.bool o.isSome) s') : wpAny (model X.prog X.w) A (compareOp .In u (.ref a)) Q E s := by
  cases q with
  | a x vs hk hd hz dd hm =>
    refine wpAny_in_of hk hd dd.mapOf ?_
    rw [Ask.isSome_a hm]
    exact h _ (I.tok _)
  | n x p xs hp hk hd hz dd hm =>
    subst hp
    refine wpAny_in_heap (in1_room hu) hk hd dd ?_
    rw [Ask.isSome_n hm]
    exact h _ (I.tok _)
theorem da_notIn {Q : Value → Shared → Prop} (hu : A.units + 90 < cLine) (I : Inv X pins σ H s) (q : Ask X s.heap H ⟨X.nm, ρ⟩ μ a u o) (h : ∀ s', Inv X pins σ H s' → Q (.bool (!o.isSome)) s') : wpAny (model X.prog X.w) A (compareOp .NotIn u (.ref a)) Q E s := by
  cases q with
  | a x vs hk hd hz dd hm =>
    refine wpAny_notIn_of hk hd dd.mapOf ?_
    rw [Ask.isSome_a hm]
    exact h _ (I.tok _)
  | n x p xs hp hk hd hz dd hm =>
    subst hp
    refine wpAny_notIn_heap (in1_room hu) hk hd dd ?_
    rw [Ask.isSome_n hm]
    exact h _ (I.tok _)
theorem da_get {d : D} {Q : Value → Shared → Prop} (hu : A.units + 90 < cLine) (I : Inv X pins σ H s) (q : Ask X s.heap H ⟨X.nm, ρ⟩ μ a u (some d)) (h : ∀ v w' s', Inv X pins σ H s' → RelV v w' → RD X.K ⟨X.nm, ρ⟩ μ H v d → Q w' s') : wpAny (model X.prog X.w) A (getItem (.ref a) u) Q E s := by
  cases q with
  | a x vs hk hd hz dd hm =>
    split at hm
    · rename_i w' d' e1 e2
      cases e2
      obtain ⟨v, h1, h2⟩ := hm
      exact wpAny_getItem_of hk dd.mapOf e1 (h v w' _ (I.tok _) h1 h2)
    · rename_i e1 e2; cases e2
    · exact hm.elim
  | n x p xs hp hk hd hz dd hm =>
    subst hp
    split at hm
    · rename_i p' w' d' e1 e2
      cases e2
      obtain ⟨v, h1, h2⟩ := hm
      exact wpAny_getItem_heap (in1_room hu) hk dd e1 (h v w' _ (I.tok _) h1 h2)
    · rename_i e1 e2; cases e2
    · exact hm.elim
/-- d.get(k, x) -/
theorem da_getOr {Q : Value → Shared → Prop} (hu : A.units + 90 < cLine) (I : Inv X pins σ H s) (q : Ask X s.heap H ⟨X.nm, ρ⟩ μ a u o) (rv : RelV v r) {dv : D} (rd : RD X.K ⟨X.nm, ρ⟩ μ H v dv)
    (h : ∀ v w' s', Inv X pins σ H s' → RelV v w' → RD X.K ⟨X.nm, ρ⟩ μ H v (o.getD dv) → Q w' s') : wpAny (model X.prog X.w) A (call (.builtin "dict.get") [.ref a, u, r]) Q E s := by
  cases q with
  | a x vs hk hd hz dd hm =>
    refine call_meetsIn PySem.F.slot_dict_get dd.typeIs PySem.F.entry_dict_get (PySem.F.args_dict_get_3 _ _ _) (meets_dict_get_default (mixKind X.prog X.w) a hk hd r) ⟨_, dd.mapOf, ?_⟩
    split at hm
    · rename_i w' d' e1
      obtain ⟨v, h1, h2⟩ := hm
      rw [e1]
      exact h v w' _ (I.tok _) h1 h2
    · rename_i e1
      rw [e1]
      exact h v r _ (I.tok _) rv rd
    · exact hm.elim
  | n x p xs hp hk hd hz dd hm =>
    subst hp
    refine call_meetsIn PySem.F.slot_dict_get dd.typeIs PySem.F.entry_dict_get (PySem.F.args_dict_get_3 _ _ _) (meetsH_dict_get_default (nestedKind X.prog X.w) a p hd r) ⟨in1_room hu, x, xs, hk, dd, ?_⟩
    split at hm
    · rename_i p' w' d' e1
      obtain ⟨v, h1, h2⟩ := hm
      rw [e1]
      exact h v w' _ (I.tok _) h1 h2
    · rename_i e1
      rw [e1]
      exact h v r _ (I.tok _) rv rd
    · exact hm.elim
/-- d[k] = v -/
theorem da_put {d : D} {t' : Bool} {kds' : List (D × D)} {Q : Unit → Shared → Prop} (hu : A.units + 90 < cLine) (I : Inv X pins σ H s) (rep : DRep X.K ⟨X.nm, ρ⟩ μ H a t kds) (rk : RD X.K ⟨X.nm, ρ⟩ μ H y k) (ry : RelV y u) (rv : RelV v r) (rd : RD X.K ⟨X.nm, ρ⟩ μ H v d)
    (hp : dPut t kds k d = some (t', kds')) (h : ∀ s' ob, Inv X pins σ (upd H a ob) s' → ((∃ kvs, ob = .dK kvs ∧ t' = false ∧ RDk X.K ⟨X.nm, ρ⟩ μ H kvs kds') ∨ ∃ nvs, ob = hoN X.w a nvs ∧ t' = true ∧ RDn X.K ⟨X.nm, ρ⟩ μ H nvs kds') → Q () s') :
    wpAny (model X.prog X.w) A (setItem (.ref a) u r) Q E s := by
  unfold dPut at hp
  rw [okLt_eq] at hp
  by_cases hlen : kds.length < 16777216
  case neg => rw [if_neg (by simpa using hlen)] at hp; cases hp
  rw [if_pos (by simpa using hlen)] at hp
  have hsz : kds.length + 1 ≤ sizeLine := by rw [sizeLine_eq]; omega
  -- the two ways of storing
  have wayA : ∀ {x : Key} {vs : List (Key × Value)} {kvs : List (Key × V)}, (mixKind X.prog X.w).is x u = true → (a == sysModules) = false → KV kvs vs → kvs.length ≤ kds.length → s.heap.DictOf (mixKind X.prog X.w) a vs → Mut (H a) → RDk X.K ⟨X.nm, ρ⟩ μ H (putK kvs x v) kds' → t' = false →
      wpAny (model X.prog X.w) A (setItem (.ref a) u r) Q E s := fun {x vs kvs} hk hd rel hz dd mu q ht => by
    refine wpAny_setItem_pairs (hsz := by rw [← rel.length]; omega) hk dd fun h' dd' hs => h _ _ ?_ (.inl ⟨_, rfl, ht, q⟩)
    have he : ∃ q, h'.get? a = some q := let ⟨q, _, _, hq, _⟩ := dd'; ⟨q, hq⟩
    exact d_write I mu hs he (dk_new (by have := length_putK kvs x v; omega) hd (rel.put x rv) dd')
  have wayN : ∀ {x : NestedKey} {p : Addr} {xs : List (NestedKey × Addr × Value)} {nvs : List (NestedKey × Addr × V)}, u = .ref p → (nestedKind X.prog X.w).is s.heap x p → (a == sysModules) = false → KN nvs xs → nvs.length ≤ kds.length → s.heap.DictOfH (nestedKind X.prog X.w) a xs → Mut (H a) →
      RDn X.K ⟨X.nm, ρ⟩ μ H (putN nvs x p v) kds' → t' = true → wpAny (model X.prog X.w) A (setItem (.ref a) u r) Q E s := fun {x p xs nvs} hu' hk hd rel hz dd mu q ht => by
    subst hu'
    refine wpAny_setItem_heap (hsz := by rw [← Paired.length rel]; omega) (in1_room hu) hk dd fun h' dd' hs => h _ _ ?_ (.inr ⟨_, rfl, ht, q⟩)
    have he : ∃ q, h'.get? a = some q := let ⟨q, _, _, hq, _⟩ := dd'; ⟨q, hq⟩
    exact d_write I mu hs he (dn_new (by have := putN_len nvs x p v; omega) hd (rel.put rv) dd')
  have key : ∀ {n : NestedKey}, tupKey k = some n → ∃ p, u = .ref p ∧ y = .ref p ∧ (nestedKind X.prog X.w).is s.heap n p := fun {n} hn => by
    have q := nk_is (P := X.prog) (w := X.w) I.hok (nk_of rk (tup_inv hn).1) ry
    have hd := (tup_inv hn).2
    cases k <;> simp only [tupKey] at hn <;> try (cases hn; done)
    cases rk with
    | @tup p _ _ _ _ =>
      cases ry
      exact ⟨p, rfl, rfl, q, hd⟩
  by_cases hk : kOk t k = true
  · rw [if_pos hk] at hp
    cases hp
    cases t with
    | false =>
      simp only [kOk, Bool.false_eq_true, if_false] at hk
      obtain ⟨x, hx⟩ := Option.isSome_iff_exists.mp hk
      have := atom_inv hx
      subst this
      obtain ⟨kvs, e, q⟩ := rep
      obtain ⟨z, hd, vs, rel, dd⟩ := dk_of I.hok e
      have hy := rd_of_keyD rk
      subst hy
      exact wayA (kV_is (P := X.prog) (w := X.w) ry) hd rel (Nat.le_of_eq q.length) dd (by rw [e]; exact True.intro) (kput_a q rd) rfl
    | true =>
      simp only [kOk, if_true] at hk
      obtain ⟨n, hn⟩ := Option.isSome_iff_exists.mp hk
      obtain ⟨nvs, e, q⟩ := rep
      obtain ⟨z, hd, xs, rel, dd⟩ := dn_dict (P := X.prog) (w := X.w) I.hok e q
      obtain ⟨p, e1, e2, hp'⟩ := key hn
      subst e2
      exact wayN e1 hp' hd rel (Nat.le_of_eq q.length) dd (by rw [e]; exact True.intro) (kput_n hn rk q rd) rfl
  · rw [if_neg hk] at hp
    by_cases hk2 : (kds.isEmpty && kOk (!t) k) = true
    case neg => rw [if_neg hk2] at hp; cases hp
    rw [if_pos hk2] at hp
    cases hp
    rw [Bool.and_eq_true] at hk2
    have hnil := List.isEmpty_iff.mp hk2.1
    subst hnil
    cases t with
    | false =>
      have hk3 := hk2.2
      simp only [kOk, Bool.not_false, if_true] at hk3
      obtain ⟨n, hn⟩ := Option.isSome_iff_exists.mp hk3
      obtain ⟨kvs, e, q⟩ := rep
      cases q
      obtain ⟨z, hd, vs, rel, dd⟩ := dk_of I.hok e
      cases rel
      obtain ⟨p, e1, e2, hp'⟩ := key hn
      subst e2
      exact wayN (nvs := []) e1 hp' hd .nil (Nat.zero_le _) (empty_n dd) (by rw [e]; exact True.intro) (.cons hn rk rd .nil) rfl
    | true =>
      have hk3 := hk2.2
      simp only [kOk, Bool.not_true, Bool.false_eq_true, if_false] at hk3
      obtain ⟨x, hx⟩ := Option.isSome_iff_exists.mp hk3
      have := atom_inv hx
      subst this
      obtain ⟨nvs, e, q⟩ := rep
      cases q
      obtain ⟨z, hd, xs, rel, dd⟩ := dn_dict (P := X.prog) (w := X.w) (K := X.K) (mg := ⟨X.nm, ρ⟩) (μ := μ) I.hok e .nil
      cases rel
      have hy := rd_of_keyD rk
      subst hy
      exact wayA (kvs := []) (kV_is (P := X.prog) (w := X.w) ry) hd .nil (Nat.zero_le _) (empty_a dd) (by rw [e]; exact True.intro) (.cons rd .nil) rfl
end
end Mi
end
set_option Elab.async false
set_option linter.all false
set_option autoImplicit false
set_option maxRecDepth 100000
set_option maxHeartbeats 1000000
/-! Mi: comparisons, tests. -/
noncomputable section
namespace Mi
open PySem PySem.Spec PyProof.Rows L2

/-! ### values as data -/
section
variable {K : PySem.W.Frag} {mg : Ctx} {μ : List Addr} {H : Hp} {st : Store}
section
variable {ρ : Nat → Option PyData} (hρ : ∀ (l : Nat) (a : Addr) (p : PyData), μ[l]? = some a → ρ l = some p → Dp K H (.ref a) p)
include hρ
mutual
theorem dp_py : ∀ {v : V} {d : D} {p : PyData}, RD K mg μ H v d → py ρ d = some p → Dp K H v p
  | _, _, _, .non, h => by simp only [py, Option.some.injEq] at h; subst h; exact .non
  | _, _, _, .bl b, h => by simp only [py, Option.some.injEq] at h; subst h; exact .bl b
  | _, _, _, .int i, h => by simp only [py, Option.some.injEq] at h; subst h; exact .int i
  | _, _, _, .str x, h => by simp only [py, Option.some.injEq] at h; subst h; exact .str x
  | _, _, _, .tup ha r, h => by
    simp only [py] at h
    split at h
    · rename_i xs e; cases h; exact .tup (SqT.of ha) (dp_pys r e)
    · cases h
  | _, _, _, .lst _ _ ha r, h => by
    simp only [py] at h
    split at h
    · rename_i xs e; cases h; exact .lst (SqL.of ha) (dp_pys r e)
    · cases h
  | _, _, _, .rol _ _, h => by simp only [py] at h; cases h
  | _, _, _, .dctA _ _ _ _, h => by simp only [py] at h; cases h
  | _, _, _, .dctN _ _ _ _, h => by simp only [py] at h; cases h
  | _, _, _, .rng _ _ _ _, h => by simp only [py] at h; cases h
  | _, _, _, .loc hl, h => by simp only [py] at h; exact hρ _ _ _ hl h
  | _, _, _, .fn _, h => by simp only [py] at h; cases h
theorem dp_pys : ∀ {vs : List V} {ds : List D} {ps : List PyData}, RDs K mg μ H vs ds → pys ρ ds = some ps → DpAll K H vs ps
  | _, _, _, .nil, h => by simp only [pys, Option.some.injEq] at h; subst h; exact .nil
  | _, _, _, .cons r t, h => by
    simp only [pys] at h
    split at h
    · rename_i x e
      split at h
      · rename_i xs e2; cases h; exact .cons (dp_py r e) (dp_pys t e2)
      · cases h
    · cases h
end
end
theorem dp_loc (R : Rel K mg μ st H) : ∀ (n : Nat) (l : Nat) (a : Addr) (p : PyData), μ[l]? = some a → locPy st n l = some p → Dp K H (.ref a) p
  | 0, _, _, _, _, h => by cases h
  | n + 1, l, a, p, hl, h => by
    simp only [locPy] at h
    split at h
    · rename_i ds e
      split at h
      · rename_i xs e2
        cases h
        obtain ⟨vs, h1, h2⟩ := R.obj l a _ hl e
        exact .lst (SqL.of h1) (dp_pys (dp_loc R n) h2 e2)
      · cases h
    · cases h
theorem dp_of (R : Rel K mg μ st H) {v : V} {d : D} {p : PyData} (r : RD K mg μ H v d) (h : toPy st d = some p) : Dp K H v p := dp_py (dp_loc R 8) r h
theorem dps_of (R : Rel K mg μ st H) {vs : List V} {ds : List D} {ps : List PyData} (r : RDs K mg μ H vs ds) (h : toPys st ds = some ps) : DpAll K H vs ps := dp_pys (dp_loc R 8) r h
end
section
variable {ρ : Nat → Option PyData} (hρ : ∀ (l : Nat) (p : PyData), ρ l = some p → p.plain = true)
include hρ
mutual
theorem py_plain : ∀ (d : D) {p : PyData}, py ρ d = some p → p.plain = true
  | .non, _, h => by simp only [py, Option.some.injEq] at h; subst h; simp only [PyData.plain]
  | .bl b, _, h => by simp only [py, Option.some.injEq] at h; subst h; simp only [PyData.plain]
  | .int b, _, h => by simp only [py, Option.some.injEq] at h; subst h; simp only [PyData.plain]
  | .str b, _, h => by simp only [py, Option.some.injEq] at h; subst h; simp only [PyData.plain]
  | .tup ds, _, h => by
    simp only [py] at h
    split at h
    · rename_i xs e; cases h; simp only [PyData.plain]; exact pys_plain ds e
    · cases h
  | .lst ds, _, h => by
    simp only [py] at h
    split at h
    · rename_i xs e; cases h; simp only [PyData.plain]; exact pys_plain ds e
    · cases h
  | .rol _, _, h => by simp only [py] at h; cases h
  | .dct _ _, _, h => by simp only [py] at h; cases h
  | .rng _ _, _, h => by simp only [py] at h; cases h
  | .loc l, _, h => by simp only [py] at h; exact hρ _ _ h
  | .fn _, _, h => by simp only [py] at h; cases h
theorem pys_plain : ∀ (ds : List D) {ps : List PyData}, pys ρ ds = some ps → PyData.plainAll ps = true
  | [], _, h => by simp only [pys, Option.some.injEq] at h; subst h; simp only [PyData.plainAll]
  | d :: ds, _, h => by
    simp only [pys] at h
    split at h
    · rename_i x e
      split at h
      · rename_i xs e2
        cases h
        simp only [PyData.plainAll, Bool.and_eq_true]
        exact ⟨py_plain d e, pys_plain ds e2⟩
      · cases h
    · cases h
end
end
theorem loc_plain (st : Store) : ∀ (n l : Nat) (p : PyData), locPy st n l = some p → p.plain = true
  | 0, _, _, h => by cases h
  | n + 1, l, p, h => by
    simp only [locPy] at h
    split at h
    · rename_i ds e
      split at h
      · rename_i xs e2; cases h; simp only [PyData.plain]; exact pys_plain (loc_plain st n) ds e2
      · cases h
    · cases h
theorem toPy_plain {st : Store} {d : D} {p : PyData} (h : toPy st d = some p) : p.plain = true := py_plain (loc_plain st 8) d h
theorem toPys_plain {st : Store} {ds : List D} {p : List PyData} (h : toPys st ds = some p) : PyData.plainAll p = true := pys_plain (loc_plain st 8) ds h

section
variable {X : Cx} {B : Base} {W : Wish} {a b c e : Expr} {ma mb mc m : E} {ta tb t : T} {pos : Pos}
def rEqP (K : PySem.W.Frag) : R2 := fun x y H Q => ∃ d e, Dp K H x d ∧ Dp K H y e ∧ d.plain = true ∧ e.plain = true ∧ min d.depth e.depth ≤ 64 ∧ Q (.bl (PyData.eqv d e)) H
def rNeP (K : PySem.W.Frag) : R2 := fun x y H Q => ∃ d e, Dp K H x d ∧ Dp K H y e ∧ d.plain = true ∧ e.plain = true ∧ min d.depth e.depth ≤ 64 ∧ Q (.bl (!PyData.eqv d e)) H
theorem op_eqP (hu : X.A.units + 90 < cLine) : OpR X (compareOp .Eq) (rEqP X.K) := by
  intro pins s σ H x y v u Q I rx ry h
  obtain ⟨d, e, hd, he, sd, se, hm, q⟩ := h
  obtain ⟨as, r1⟩ := Dp.reads I d x v hd rx
  obtain ⟨bs, r2⟩ := Dp.reads I e y u he ry
  exact SeqAt.eq_plain r1 r2 sd se (by omega) ⟨.bl _, H, I, rfl, q⟩
theorem op_neP (hu : X.A.units + 90 < cLine) : OpR X (compareOp .NotEq) (rNeP X.K) := by
  intro pins s σ H x y v u Q I rx ry h
  obtain ⟨d, e, hd, he, sd, se, hm, q⟩ := h
  obtain ⟨as, r1⟩ := Dp.reads I d x v hd rx
  obtain ⟨bs, r2⟩ := Dp.reads I e y u he ry
  exact SeqAt.ne_plain r1 r2 sd se (by omega) ⟨.bl _, H, I, rfl, q⟩
def rInP (K : PySem.W.Frag) (neg : Bool) : R2 := fun x y H Q => ∃ d ds, Dp K H x d ∧ (Dp K H y (.list ds) ∨ Dp K H y (.tuple ds)) ∧ d.plain = true ∧ PyData.plainAll ds = true ∧ min (PyData.depthAll ds) d.depth ≤ 64 ∧ Q (.bl (if neg then !ds.any (fun z => PyData.eqv z d) else ds.any (fun z => PyData.eqv z d))) H
theorem op_inP (hu : X.A.units + 90 < cLine) : OpR X (compareOp .In) (rInP X.K false) := by
  intro pins s σ H x y v u Q I rx ry h
  obtain ⟨d, ds, hd, he, sd, se, hm, q⟩ := h
  obtain ⟨as, r1⟩ := Dp.reads I d x v hd rx
  rcases he with he | he
  · obtain ⟨bs, r2⟩ := Dp.reads I (.list ds) y u he ry
    exact SeqAt.in_list_data r2 r1 se sd (by omega) ⟨.bl _, H, I, rfl, q⟩
  · obtain ⟨bs, r2⟩ := Dp.reads I (.tuple ds) y u he ry
    exact SeqAt.in_tuple_data r2 r1 se sd (by omega) ⟨.bl _, H, I, rfl, q⟩
theorem op_notInP (hu : X.A.units + 90 < cLine) : OpR X (compareOp .NotIn) (rInP X.K true) := by
  intro pins s σ H x y v u Q I rx ry h
  obtain ⟨d, ds, hd, he, sd, se, hm, q⟩ := h
  obtain ⟨as, r1⟩ := Dp.reads I d x v hd rx
  rcases he with he | he
  · obtain ⟨bs, r2⟩ := Dp.reads I (.list ds) y u he ry
    exact SeqAt.notIn_list_data r2 r1 se sd (by omega) ⟨.bl _, H, I, rfl, q⟩
  · obtain ⟨bs, r2⟩ := Dp.reads I (.tuple ds) y u he ry
    exact SeqAt.notIn_tuple_data r2 r1 se sd (by omega) ⟨.bl _, H, I, rfl, q⟩

def CmpS (X : Cx) (op : CmpOp) (f : Cmp) : Prop := ∃ r : R2, OpR X (compareOp op) r ∧ ∀ {ρ μ : List Addr} {st : Store} {H : Hp} {v u : V} {x y : D} {k : Bool} {Q : VK}, Rel X.K ⟨X.nm, ρ⟩ μ st H → RD X.K ⟨X.nm, ρ⟩ μ H v x → RD X.K ⟨X.nm, ρ⟩ μ H u y → f st x y = some k →
  Q (.bl k) H → r v u H Q
theorem cmp_eq (hu : X.A.units + 90 < cLine) : CmpS X .Eq dEq := by
  refine ⟨_, op_eqP hu, ?_⟩
  intro ρ μ st H v u x y k Q R rv ru h q
  unfold dEq at h
  split at h
  · rename_i p1 p2 e1 e2
    split at h
    · rename_i hm
      cases h
      exact ⟨_, _, dp_of R rv e1, dp_of R ru e2, toPy_plain e1, toPy_plain e2, hm, q⟩
    · cases h
  · cases h
theorem dEq_inv {st : Store} {x y : D} {k : Bool} (h : dNe st x y = some k) : ∃ b, dEq st x y = some b ∧ k = !b := by
  unfold dNe at h
  split at h
  · rename_i b e; cases h; exact ⟨b, e, rfl⟩
  · cases h
theorem cmp_ne (hu : X.A.units + 90 < cLine) : CmpS X .NotEq dNe := by
  refine ⟨_, op_neP hu, ?_⟩
  intro ρ μ st H v u x y k Q R rv ru h q
  obtain ⟨b, h2, e⟩ := dEq_inv h
  subst e
  clear h
  have h := h2
  clear h2
  unfold dEq at h
  split at h
  · rename_i p1 p2 e1 e2
    split at h
    · rename_i hm
      cases h
      exact ⟨_, _, dp_of R rv e1, dp_of R ru e2, toPy_plain e1, toPy_plain e2, hm, q⟩
    · cases h
  · cases h
theorem seq_dp {ρ μ : List Addr} {st : Store} {H : Hp} {u : V} {y : D} {ds : List D} {ps : List PyData} (R : Rel X.K ⟨X.nm, ρ⟩ μ st H) (ru : RD X.K ⟨X.nm, ρ⟩ μ H u y) (hro : ∀ ds, y ≠ .rol ds) (h : seqOf st y = some ds) (hp : toPys st ds = some ps) :
    Dp X.K H u (.list ps) ∨ Dp X.K H u (.tuple ps) := by
  cases y <;> simp only [seqOf] at h <;> try (cases h; done)
  · cases h
    cases ru with
    | tup ha r => exact .inr (.tup (SqT.of ha) (dps_of R r hp))
  · cases h
    cases ru with
    | lst _ _ ha r => exact .inl (.lst (SqL.of ha) (dps_of R r hp))
  · exact absurd rfl (hro _)
  · split at h
    · rename_i es e
      cases h
      cases ru with
      | loc hl =>
        obtain ⟨vs, h1, h2⟩ := R.obj _ _ _ hl e
        exact .inl (.lst (SqL.of h1) (dps_of R h2 hp))
    · cases h
theorem seq_dp' {ρ μ : List Addr} {st : Store} {H : Hp} {u : V} {y : D} {ds : List D} {ps : List PyData} (R : Rel X.K ⟨X.nm, ρ⟩ μ st H) (ru : RD X.K ⟨X.nm, ρ⟩ μ H u y) (h : seqOf st y = some ds) (hp : toPys st ds = some ps) :
    Dp X.K H u (.list ps) ∨ Dp X.K H u (.tuple ps) := by
  by_cases hro : ∃ es, y = .rol es
  · obtain ⟨es, rfl⟩ := hro
    simp only [seqOf, Option.some.injEq] at h
    subst h
    cases ru with
    | rol ha r => exact .inl (.lst ha.sq (dps_of R r hp))
  · exact seq_dp R ru (fun ds z => hro ⟨ds, z⟩) h hp
theorem OpR.orr {f : Value → Value → Sem Value} {r r' : R2} (h : OpR X f r) (h' : OpR X f r') : OpR X f (fun x y H Q => r x y H Q ∨ r' x y H Q) := by
  intro pins s σ H x y v u Q I rx ry q
  rcases q with q | q
  · exact h pins s σ H x y v u Q I rx ry q
  · exact h' pins s σ H x y v u Q I rx ry q
def rInD (X : Cx) (neg : Bool) : R2 := fun x y H Q => ∃ (ρ μ : List Addr) (t : Bool) (kds : List (D × D)) (k : D) (a : Addr) (o : Option D), y = .ref a ∧ DRep X.K ⟨X.nm, ρ⟩ μ H a t kds ∧ RD X.K ⟨X.nm, ρ⟩ μ H x k ∧ dFind t kds k = some o ∧ Q (.bl (if neg then !o.isSome else o.isSome)) H
theorem op_inD (hu : X.A.units + 90 < cLine) : OpR X (compareOp .In) (rInD X false) := by
  intro pins s σ H x y v u Q I rx ry ⟨ρ, μ, t, kds, k, a, o, e, rep, rk, h, q⟩
  subst e
  cases ry
  exact da_in hu I (ask I rep rk rx h) fun s' I' => ⟨.bl _, H, I', rfl, q⟩
theorem op_notInD (hu : X.A.units + 90 < cLine) : OpR X (compareOp .NotIn) (rInD X true) := by
  intro pins s σ H x y v u Q I rx ry ⟨ρ, μ, t, kds, k, a, o, e, rep, rk, h, q⟩
  subst e
  cases ry
  exact da_notIn hu I (ask I rep rk rx h) fun s' I' => ⟨.bl _, H, I', rfl, q⟩
theorem cmp_in (hu : X.A.units + 90 < cLine) : CmpS X .In dIn := by
  refine ⟨_, OpR.orr (op_inP hu) (op_inD hu), ?_⟩
  intro ρ μ st H v u x y k Q R rv ru h q
  unfold dIn at h
  split at h
  · rename_i t kvs e
    split at h
    · rename_i o ho
      cases h
      obtain ⟨a, rfl, rep⟩ := dct_of R ru e
      exact .inr ⟨ρ, μ, t, kvs, x, a, o, rfl, rep, rv, ho, q⟩
    · cases h
  · unfold dInS at h
    split at h
    · rename_i p1 ds e1 e2
      split at h
      · rename_i ps e3
        split at h
        · rename_i hm
          cases h
          exact .inl ⟨_, _, dp_of R rv e1, seq_dp' R ru e2 e3, toPy_plain e1, toPys_plain e3, hm, q⟩
        · cases h
      · cases h
    · cases h
theorem cmp_notIn (hu : X.A.units + 90 < cLine) : CmpS X .NotIn dNotIn := by
  refine ⟨_, OpR.orr (op_notInP hu) (op_notInD hu), ?_⟩
  intro ρ μ st H v u x y k Q R rv ru h q
  unfold dNotIn at h
  split at h
  · rename_i b h'
    cases h
    unfold dIn at h'
    split at h'
    · rename_i t kvs e
      split at h'
      · rename_i o ho
        cases h'
        obtain ⟨a, rfl, rep⟩ := dct_of R ru e
        exact .inr ⟨ρ, μ, t, kvs, x, a, o, rfl, rep, rv, ho, q⟩
      · cases h'
    · unfold dInS at h'
      split at h'
      · rename_i p1 ds e1 e2
        split at h'
        · rename_i ps e3
          split at h'
          · rename_i hm
            cases h'
            exact .inl ⟨_, _, dp_of R rv e1, seq_dp' R ru e2 e3, toPy_plain e1, toPys_plain e3, hm, q⟩
          · cases h'
        · cases h'
      · cases h'
  · cases h
theorem cmp_lt : CmpS X .Lt dLt := by
  refine ⟨_, op_lt, ?_⟩
  intro ρ μ st H v u x y k Q R rv ru h q
  cases x <;> cases y <;> simp only [dLt] at h <;> try (cases h; done)
  cases h; cases rv; cases ru
  exact ⟨_, _, rfl, rfl, q⟩
theorem cmp_le : CmpS X .LtE dLe := by
  refine ⟨_, op_le, ?_⟩
  intro ρ μ st H v u x y k Q R rv ru h q
  cases x <;> cases y <;> simp only [dLe] at h <;> try (cases h; done)
  cases h; cases rv; cases ru
  exact ⟨_, _, rfl, rfl, q⟩
theorem cmp_gt : CmpS X .Gt dGt := by
  refine ⟨_, op_gt, ?_⟩
  intro ρ μ st H v u x y k Q R rv ru h q
  cases x <;> cases y <;> simp only [dGt] at h <;> try (cases h; done)
  cases h; cases rv; cases ru
  exact ⟨_, _, rfl, rfl, q⟩
theorem cmp_ge : CmpS X .GtE dGe := by
  refine ⟨_, op_ge, ?_⟩
  intro ρ μ st H v u x y k Q R rv ru h q
  cases x <;> cases y <;> simp only [dGe] at h <;> try (cases h; done)
  cases h; cases rv; cases ru
  exact ⟨_, _, rfl, rfl, q⟩
theorem RD.isNon {K : PySem.W.Frag} {mg : Ctx} {μ : List Addr} {H : Hp} {v : V} {d : D} (r : RD K mg μ H v d) : decide (v = .non) = isNon d := by
  cases r <;> simp [Mi.isNon]
/-- .. and None -/
def dIsN' (st : Store) (x y : D) : Option Bool := if isNon y then dIsN st x y else none
def dIsNotN' (st : Store) (x y : D) : Option Bool := if isNon y then dIsNotN st x y else none
theorem cmp_isN : CmpS X .Is dIsN' := by
  refine ⟨_, op_isN, ?_⟩
  intro ρ μ st H v u x y k Q R rv ru h q
  have hy : y = .non := by cases y <;> simp [dIsN', isNon] at h ⊢
  subst hy
  have e : isNon x = k := Option.some.inj h
  subst e
  cases ru
  exact ⟨rfl, by rw [rv.isNon]; exact q⟩
theorem cmp_isNotN : CmpS X .IsNot dIsNotN' := by
  refine ⟨_, op_notN, ?_⟩
  intro ρ μ st H v u x y k Q R rv ru h q
  have hy : y = .non := by cases y <;> simp [dIsNotN', isNon] at h ⊢
  subst hy
  have e : (!isNon x) = k := Option.some.inj h
  subst e
  cases ru
  exact ⟨rfl, by rw [rv.isNon]; exact q⟩

/-! ### tests -/
theorem ct_cmp {op : CmpOp} {f : Cmp} (ho : CmpS X op f) (ha : CE X B W a ma) (hb : CE X B W b mb) (hm : behindInMarks op b = false) : CT X B W (.Compare a [op] [b] pos) (tCmp f ma mb) := by
  obtain ⟨r, hr, hs⟩ := ho
  refine PT.imp (pt_cmpR hr ha hb hm) ?_
  rintro σ H Q ⟨μ, st, env, n, r, h, hq⟩
  refine first n h (resT_ex hq) fun d st1 μ1 H1 v h1 s1 n1 r1 => ?_
  refine first n1 h1 (resT_ex hq) fun d2 st2 μ2 H2 u h2 s2 n2 r2 => ?_
  obtain ⟨k, e3, rfl⟩ := look_inv h2
  exact hs n2.rel (r1.step n1.rel s2) r2 e3 ⟨k, rfl, hq _ _ (s1.trans n1.rel s2) n2.rel⟩
theorem bnd_assoc {α β γ : Type} (m : M α) (f : α → M β) (g : β → M γ) : bnd (bnd m f) g = bnd m fun a => bnd (f a) g := by
  funext st
  unfold bnd
  cases m st with
  | none => rfl
  | some r => cases r <;> rfl
theorem ce_cmp {op : CmpOp} {f : Cmp} (ho : CmpS X op f) (ha : CE X B W a ma) (hb : CE X B W b mb) (hm : behindInMarks op b = false) : CE X B W (.Compare a [op] [b] pos) (eB (tCmp f ma mb)) := by
  obtain ⟨r, hr, hs⟩ := ho
  refine PE.imp (pe_cmpR hr ha hb hm) ?_
  rintro σ H Q ⟨μ, st, env, n, r, h, hq⟩
  have h' : bnd (ma env) (fun x => bnd (mb env) fun y => bnd (look fun st => f st x y) fun k => ret (.bl k)) st = some r := by
    have e : eB (tCmp f ma mb) env = bnd (ma env) (fun x => bnd (mb env) fun y => bnd (look fun st => f st x y) fun k => ret (.bl k)) := by
      unfold eB tCmp
      rw [bnd_assoc]
      congr 1
      funext x
      rw [bnd_assoc]
    rw [← e]; exact h
  refine first n h' (res_ex hq) fun d st1 μ1 H1 v h1 s1 n1 r1 => ?_
  refine first n1 h1 (res_ex hq) fun d2 st2 μ2 H2 u h2 s2 n2 r2 => ?_
  rcases bnd_inv h2 with ⟨k, st3, e, h⟩ | ⟨x, st3, e, rfl⟩
  · obtain ⟨k', e3, z⟩ := look_inv e
    cases z
    cases ret_inv h
    exact hs n2.rel (r1.step n1.rel s2) r2 e3 (hq _ _ _ (s1.trans n1.rel s2) n2.rel (.bl k))
  · obtain ⟨k', e3, z⟩ := look_inv e
    cases z
theorem ct_chain {op op' : CmpOp} {f g : Cmp} (ho : CmpS X op f) (ho' : CmpS X op' g) (ha : CE X B W a ma) (hb : CE X B W b mb) (hc : CE X B W c mc) (hm : lastMarks [op, op'] [b, c] = false := by with_unfolding_all rfl) :
    CT X B W (.Compare a [op, op'] [b, c] pos) (tChain f g ma mb mc) := by
  obtain ⟨r, hr, hs⟩ := ho
  obtain ⟨r', hr', hs'⟩ := ho'
  refine PT.imp (pt_chain hr hr' ha hb hc hm) ?_
  rintro σ H Q ⟨μ, st, env, n, r, h, hq⟩
  refine first n h (resT_ex hq) fun d st1 μ1 H1 v h1 s1 n1 r1 => ?_
  refine first n1 h1 (resT_ex hq) fun d2 st2 μ2 H2 u h2 s2 n2 r2 => ?_
  rcases bnd_inv h2 with ⟨k, st3, e, h⟩ | ⟨x, st3, e, rfl⟩
  · obtain ⟨k', e3, z⟩ := look_inv e
    cases z
    refine hs n2.rel (r1.step n1.rel s2) r2 e3 ⟨k, rfl, ?_⟩
    cases k with
    | false =>
      rw [if_neg Bool.false_ne_true] at h ⊢
      cases ret_inv h
      exact ⟨false, rfl, hq _ _ (s1.trans n1.rel s2) n2.rel⟩
    | true =>
      rw [if_pos rfl] at h ⊢
      refine first n2 h (resT_ex hq) fun d3 st3 μ3 H3 u3 h3 s3 n3 r3 => ?_
      obtain ⟨k', e4, rfl⟩ := look_inv h3
      exact hs' n3.rel (r2.step n2.rel s3) r3 e4 ⟨k', rfl, hq _ _ ((s1.trans n1.rel s2).trans n2.rel s3) n3.rel⟩
  · obtain ⟨k', e3, z⟩ := look_inv e
    cases z
theorem ce_chain {op op' : CmpOp} {f g : Cmp} (ho : CmpS X op f) (ho' : CmpS X op' g) (ha : CE X B W a ma) (hb : CE X B W b mb) (hc : CE X B W c mc) (hm : lastMarks [op, op'] [b, c] = false := by with_unfolding_all rfl) :
    CE X B W (.Compare a [op, op'] [b, c] pos) (eB (tChain f g ma mb mc)) := by
  obtain ⟨r, hr, hs⟩ := ho
  obtain ⟨r', hr', hs'⟩ := ho'
  refine PE.imp (pe_chain hr hr' ha hb hc hm) ?_
  rintro σ H Q ⟨μ, st, env, n, r, h, hq⟩
  have h' : bnd (ma env) (fun x => bnd (mb env) fun y => bnd (look fun st => f st x y) fun k => bnd (if k then bnd (mc env) fun z => look fun st => g st y z else ret false) fun k => ret (.bl k)) st = some r := by
    have e : eB (tChain f g ma mb mc) env = bnd (ma env) (fun x => bnd (mb env) fun y => bnd (look fun st => f st x y) fun k => bnd (if k then bnd (mc env) fun z => look fun st => g st y z else ret false) fun k => ret (.bl k)) := by
      unfold eB tChain
      rw [bnd_assoc]
      congr 1
      funext x
      rw [bnd_assoc]
      congr 1
      funext y
      rw [bnd_assoc]
    rw [← e]; exact h
  refine first n h' (res_ex hq) fun d st1 μ1 H1 v h1 s1 n1 r1 => ?_
  refine first n1 h1 (res_ex hq) fun d2 st2 μ2 H2 u h2 s2 n2 r2 => ?_
  rcases bnd_inv h2 with ⟨k, st3, e, h⟩ | ⟨x, st3, e, rfl⟩
  · obtain ⟨k', e3, z⟩ := look_inv e
    cases z
    refine hs n2.rel (r1.step n1.rel s2) r2 e3 ⟨k, rfl, ?_⟩
    cases k with
    | false =>
      rw [if_neg Bool.false_ne_true]
      rw [if_neg Bool.false_ne_true] at h
      rcases bnd_inv h with ⟨k, st4, e, h⟩ | ⟨x, st4, e, rfl⟩
      · cases ret_inv e
        cases ret_inv h
        exact hq _ _ _ (s1.trans n1.rel s2) n2.rel (.bl _)
      · cases ret_inv e
    | true =>
      rw [if_pos rfl]
      rw [if_pos rfl, bnd_assoc] at h
      refine first n2 h (res_ex hq) fun d3 st3 μ3 H3 u3 h3 s3 n3 r3 => ?_
      rcases bnd_inv h3 with ⟨k, st4, e, h⟩ | ⟨x, st4, e, rfl⟩
      · obtain ⟨k', e4, z⟩ := look_inv e
        cases z
        cases ret_inv h
        exact hs' n3.rel (r2.step n2.rel s3) r3 e4 (hq _ _ _ ((s1.trans n1.rel s2).trans n2.rel s3) n3.rel (.bl k))
      · obtain ⟨k', e3, z⟩ := look_inv e
        cases z
  · obtain ⟨k', e3, z⟩ := look_inv e
    cases z
/-- and, or, not of tests -/
theorem ct_and {rest : List Expr} (ha : CT X B W a ta) (hb : PW X (.BoolOp .And (b :: rest) pos) (tMT X.K ⟨X.nm, B.ρ⟩ B W tb)) : PW X (.BoolOp .And (a :: b :: rest) pos) (tMT X.K ⟨X.nm, B.ρ⟩ B W (tAnd ta tb)) := by
  refine ⟨fun wh pins s σ H Q I hw => (pw_and ha hb).run wh pins s σ H Q I ?_⟩
  obtain ⟨μ, st, env, n, r, h, hq⟩ := hw
  refine firstT n h (resT_ex hq) fun k st1 μ1 H1 h1 s1 n1 => ?_
  cases k with
  | false =>
    rw [if_neg Bool.false_ne_true]
    rw [if_neg Bool.false_ne_true] at h1
    cases ret_inv h1
    exact hq _ _ s1 n1.rel
  | true =>
    rw [if_pos rfl]
    rw [if_pos rfl] at h1
    refine ⟨μ1, st1, env, n1, r, h1, ?_⟩
    cases r with
    | ok k st2 => exact fun μ' H' s R => hq μ' H' (s1.trans n1.rel s) R
    | ex x st2 => exact hq
theorem ct_or {rest : List Expr} (ha : CT X B W a ta) (hb : PW X (.BoolOp .Or (b :: rest) pos) (tMT X.K ⟨X.nm, B.ρ⟩ B W tb)) : PW X (.BoolOp .Or (a :: b :: rest) pos) (tMT X.K ⟨X.nm, B.ρ⟩ B W (tOr ta tb)) := by
  refine ⟨fun wh pins s σ H Q I hw => (pw_or ha hb).run wh pins s σ H Q I ?_⟩
  obtain ⟨μ, st, env, n, r, h, hq⟩ := hw
  refine firstT n h (resT_ex hq) fun k st1 μ1 H1 h1 s1 n1 => ?_
  cases k with
  | true =>
    rw [if_pos rfl]
    rw [if_pos rfl] at h1
    cases ret_inv h1
    exact hq _ _ s1 n1.rel
  | false =>
    rw [if_neg Bool.false_ne_true]
    rw [if_neg Bool.false_ne_true] at h1
    refine ⟨μ1, st1, env, n1, r, h1, ?_⟩
    cases r with
    | ok k st2 => exact fun μ' H' s R => hq μ' H' (s1.trans n1.rel s) R
    | ex x st2 => exact hq
theorem ct_and1 (ha : CT X B W a ta) : PW X (.BoolOp .And [a] pos) (tMT X.K ⟨X.nm, B.ρ⟩ B W ta) := pw_and1 ha
theorem ct_or1 (ha : CT X B W a ta) : PW X (.BoolOp .Or [a] pos) (tMT X.K ⟨X.nm, B.ρ⟩ B W ta) := pw_or1 ha
theorem ct_w (h : PW X e (tMT X.K ⟨X.nm, B.ρ⟩ B W t)) : CT X B W e t := h.pt
theorem ct_not (ha : CT X B W a ta) : CT X B W (.UnaryOp .Not a pos) (tNot ta) := by
  refine PT.imp (pt_not ha) ?_
  rintro σ H Q ⟨μ, st, env, n, r, h, hq⟩
  refine firstT n h (resT_ex hq) fun k st1 μ1 H1 h1 s1 n1 => ?_
  cases ret_inv h1
  exact hq _ _ s1 n1.rel
/-- a truth value as a test -/
theorem ct_val (h : CE X B W e m) (he : ∀ whole, isTrue e X.env whole = (do let v ← whole; standAt e.pos; holding [v] (truthy v)) := by intro _; rfl) : CT X B W e (tE m) := by
  refine PT.imp (pt_val h he) ?_
  rintro σ H Q ⟨μ, st, env, n, r, h, hq⟩
  refine first n h (resT_ex hq) fun d st1 μ1 H1 v h1 s1 n1 r1 => ?_
  obtain ⟨k, e, rfl⟩ := need_inv h1
  cases d <;> simp only at e <;> try (cases e; done)
  cases e
  cases r1
  exact ⟨_, rfl, hq _ _ s1 n1.rel⟩
theorem ce_if (hc : CT X B W c t) (ha : CE X B W a ma) (hb : CE X B W b mb) : CE X B W (.IfExp c a b pos) (eIf t ma mb) := by
  refine PE.imp (pe_ifExp hc ha hb) ?_
  rintro σ H Q ⟨μ, st, env, n, r, h, hq⟩
  refine firstT n h (res_ex hq) fun k st1 μ1 H1 h1 s1 n1 => ?_
  have go : ∀ {m : E}, m env st1 = some r → tM X.K ⟨X.nm, B.ρ⟩ B W m σ H1 Q := fun {m} hm => by
    refine ⟨μ1, st1, env, n1, r, hm, ?_⟩
    cases r with
    | ok k st2 => exact fun μ' H' v s R rd => hq μ' H' v (s1.trans n1.rel s) R rd
    | ex x st2 => exact hq
  cases k with
  | true =>
    rw [if_pos rfl]
    rw [if_pos rfl] at h1
    exact go h1
  | false =>
    rw [if_neg Bool.false_ne_true]
    rw [if_neg Bool.false_ne_true] at h1
    exact go h1
/-- and, or of truth values as a value -/
theorem ce_one {op : BoolOp} (h : CE X B W a m) : CE X B W (.BoolOp op [a] pos) m := pe_one h
theorem ce_and {rest : List Expr} (ha : CE X B W a ma) (hb : CE X B W (.BoolOp .And (b :: rest) pos) mb) : CE X B W (.BoolOp .And (a :: b :: rest) pos) (eAnd ma mb) := by
  refine PE.imp (pe_and ha hb) ?_
  rintro σ H Q ⟨μ, st, env, n, r, h, hq⟩
  refine first n h (res_ex hq) fun d st1 μ1 H1 v h1 s1 n1 r1 => ?_
  have go : ∀ {m : E}, m env st1 = some r → tM X.K ⟨X.nm, B.ρ⟩ B W m σ H1 Q := fun {m} hm => by
    refine ⟨μ1, st1, env, n1, r, hm, ?_⟩
    cases r with
    | ok k st2 => exact fun μ' H' v s R rd => hq μ' H' v (s1.trans n1.rel s) R rd
    | ex x st2 => exact hq
  split at h1
  · cases r1
    exact ⟨true, rfl, by rw [if_pos rfl]; exact go h1⟩
  · cases r1
    cases ret_inv h1
    exact ⟨false, rfl, by rw [if_neg Bool.false_ne_true]; exact hq _ _ _ s1 n1.rel (.bl _)⟩
  · cases h1
theorem ce_or {rest : List Expr} (ha : CE X B W a ma) (hb : CE X B W (.BoolOp .Or (b :: rest) pos) mb) : CE X B W (.BoolOp .Or (a :: b :: rest) pos) (eOr ma mb) := by
  refine PE.imp (pe_or ha hb) ?_
  rintro σ H Q ⟨μ, st, env, n, r, h, hq⟩
  refine first n h (res_ex hq) fun d st1 μ1 H1 v h1 s1 n1 r1 => ?_
  have go : ∀ {m : E}, m env st1 = some r → tM X.K ⟨X.nm, B.ρ⟩ B W m σ H1 Q := fun {m} hm => by
    refine ⟨μ1, st1, env, n1, r, hm, ?_⟩
    cases r with
    | ok k st2 => exact fun μ' H' v s R rd => hq μ' H' v (s1.trans n1.rel s) R rd
    | ex x st2 => exact hq
  split at h1
  · cases r1
    exact ⟨false, rfl, by rw [if_neg Bool.false_ne_true]; exact go h1⟩
  · cases r1
    cases ret_inv h1
    exact ⟨true, rfl, by rw [if_pos rfl]; exact hq _ _ _ s1 n1.rel (.bl _)⟩
  · cases h1
theorem ce_not (ha : CE X B W a ma) : CE X B W (.UnaryOp .Not a pos) (eB (tNot (tE ma))) := by
  refine PE.imp (pe_not ha) ?_
  rintro σ H Q ⟨μ, st, env, n, r, h, hq⟩
  have h' : bnd (ma env) (fun d => bnd (need (match d with | .bl b => some b | _ => none)) fun x => bnd (ret (!x)) fun b => ret (.bl b)) st = some r := by
    have e : eB (tNot (tE ma)) env = bnd (ma env) (fun d => bnd (need (match d with | .bl b => some b | _ => none)) fun x => bnd (ret (!x)) fun b => ret (.bl b)) := by
      unfold eB tNot tE
      rw [bnd_assoc, bnd_assoc]
      try rfl
    rw [← e]; exact h
  refine first n h' (res_ex hq) fun d st1 μ1 H1 v h1 s1 n1 r1 => ?_
  rcases bnd_inv h1 with ⟨k, st3, e, h⟩ | ⟨x, st3, e, rfl⟩
  · obtain ⟨k', e3, z⟩ := need_inv e
    cases z
    cases d <;> simp only at e3 <;> try (cases e3; done)
    cases e3
    rcases bnd_inv h with ⟨k, st4, e, h⟩ | ⟨x, st4, e, rfl⟩
    · cases ret_inv e
      cases ret_inv h
      cases r1
      exact ⟨_, rfl, hq _ _ _ s1 n1.rel (.bl _)⟩
    · cases ret_inv e
  · obtain ⟨k', e3, z⟩ := need_inv e
    cases z
end
end Mi
end
set_option Elab.async false
set_option linter.all false
set_option autoImplicit false
set_option maxRecDepth 100000
set_option maxHeartbeats 1000000
/-! Mi: built-ins, subscripts, slices. -/
noncomputable section
namespace Mi
open PySem PySem.Spec PyProof.Rows L2
section
variable {K : PySem.W.Frag} {mg : Ctx} {μ : List Addr} {H : Hp} {st : Store}
/-- the items of a list, a tuple -/
theorem seq_of (R : Rel K mg μ st H) {u : V} {y : D} {ds : List D} (r : RD K mg μ H u y) (h : seqOf st y = some ds) : ∃ a vs, u = .ref a ∧ (SqL K H a vs ∨ SqT K H a vs) ∧ RDs K mg μ H vs ds := by
  cases y <;> simp only [seqOf] at h <;> try (cases h; done)
  · cases h
    cases r with
    | tup ha r => exact ⟨_, _, rfl, .inr (SqT.of ha), r⟩
  · cases h
    cases r with
    | lst _ _ ha r => exact ⟨_, _, rfl, .inl (SqL.of ha), r⟩
  · cases h
    cases r with
    | rol ha r => exact ⟨_, _, rfl, .inl ha.sq, r⟩
  · split at h
    · rename_i es e
      cases h
      cases r with
      | loc hl =>
        obtain ⟨vs, h1, h2⟩ := R.obj _ _ _ hl e
        exact ⟨_, vs, rfl, .inl (SqL.of h1), h2⟩
    · cases h
theorem lst_of (R : Rel K mg μ st H) {u : V} {y : D} {ds : List D} (r : RD K mg μ H u y) (h : lstOf st y = some ds) : ∃ a vs, u = .ref a ∧ H a = some (.lst vs) ∧ RDs K mg μ H vs ds := by
  cases y <;> simp only [lstOf] at h <;> try (cases h; done)
  · cases h
    cases r with
    | lst _ _ ha r => exact ⟨_, _, rfl, ha, r⟩
  · split at h
    · rename_i es e
      cases h
      cases r with
      | loc hl =>
        obtain ⟨vs, h1, h2⟩ := R.obj _ _ _ hl e
        exact ⟨_, vs, rfl, h1, h2⟩
    · cases h
/-- a value's type -/
inductive TyM (K : PySem.W.Frag) (w : World) (H : Hp) : V → Value → Prop where
  | base {x : V} {t : Value} (h : TyOf K H x t) : TyM K w H x t
  | kList {a : Addr} {o : Obj} (e : K.lookup a = some o) (c : o.cls = .type "list") : TyM K w H (.ref a) (.type "list")
  | dn {a : Addr} {nvs : List (NestedKey × Addr × V)} (e : H a = some (hoN w a nvs)) : TyM K w H (.ref a) (.type "dict")
theorem kit_ofM {X : Cx} {pins : List (Addr × Obj)} {σ : L2.St} {H : Hp} {s : Shared} {x : V} {u t : Value} (I : Inv X pins σ H s) (rx : RelV x u) (ty : TyM X.K X.w H x t) : ∃ P : Heap → Prop, PySem.W.KitX X.K u t P ∧ P s.heap ∧ u ≠ .builtin "__main__.__loader__#opaque" := by
  cases ty with
  | base b => exact kit_of I rx (.base b)
  | kList e c => exact kit_of I rx (.kList e c)
  | @dn a nvs ea =>
    cases (show u = Value.ref a from rx)
    obtain ⟨_, _, xs, _, o, es, ep, h1, h2, _⟩ := dn_of (P := X.prog) I.hok ea
    exact ⟨_, PySem.W.kitx_dict, ⟨o, h1, h2.1⟩, fun z => nomatch z⟩
def rIsiM (K : PySem.W.Frag) (w : World) : List V → Hp → VK → Prop := fun xs H Q => ∃ (x c : V) (t u : Value) (b : Bool), xs = [x, c] ∧ ClsV c u ∧ TyM K w H x t ∧ PySem.W.kitOne K t u = some b ∧ Q (.bl b) H
def rIsiTM (K : PySem.W.Frag) (w : World) : List V → Hp → VK → Prop := fun xs H Q => ∃ (x : V) (tp : Addr) (cs : List V) (t : Value) (us : List Value) (b : Bool), xs = [x, .ref tp] ∧ H tp = some (.tup cs) ∧ Paired ClsV cs us ∧ TyM K w H x t ∧ PySem.W.kitAny K t us = some b ∧ Q (.bl b) H
theorem call_isiM {X : Cx} : CallR X (.builtin "isinstance") (rIsiM X.K X.w) := by
  intro pins s σ H xs us Q I r h
  obtain ⟨x, c, t, u, b, rfl, k, ty, e, q⟩ := h
  obtain ⟨u1, u2, rfl, r1, r2⟩ := vals2 r
  have e2 := k.eq r2
  subst e2
  obtain ⟨P, Z, p, hx⟩ := kit_ofM I r1 ty
  exact PySem.W.kia_one Z I.kIn p e hx fun tk => ⟨.bl b, H, I.tok tk, rfl, q⟩
theorem call_isiTM {X : Cx} : CallR X (.builtin "isinstance") (rIsiTM X.K X.w) := by
  intro pins s σ H xs us Q I r h
  obtain ⟨x, tp, cs, t, ws, b, rfl, hT, k, ty, e, q⟩ := h
  obtain ⟨u1, u2, rfl, r1, r2⟩ := vals2 r
  cases (show u2 = Value.ref tp from r2)
  obtain ⟨P, Z, p, hx⟩ := kit_ofM I r1 ty
  obtain ⟨_, its, rv, o, h1, h2, n, h3⟩ := (show ObjOk X.prog X.w H s.heap tp (.tup cs) from I.hok tp _ hT)
  have e3 := ClsV.all k rv
  subst e3
  obtain ⟨oc, od, dt, sl⟩ := o
  simp only at h2 h3
  subst h2 h3
  exact PySem.W.kia_tup Z I.kIn p h1 e hx fun tk => ⟨.bl b, H, I.tok tk, rfl, q⟩
/-- the type's name -/
theorem ty_of (R : Rel K mg μ st H) {u : V} {y : D} {t : String} (r : RD K mg μ H u y) (h : tyOf st y = some t) : TyM K mg.g.w H u (.type t) := by
  cases y <;> simp only [tyOf] at h <;> try (cases h; done)
  · cases h; cases r; exact .base .non
  · cases h; cases r; exact .base (.bl _)
  · cases h; cases r; exact .base (.int _)
  · cases h; cases r; exact .base (.str _)
  · cases h
    cases r with
    | tup ha r => exact .base (.tup ha)
  · cases h
    cases r with
    | lst _ _ ha r => exact .base (.lst ha)
  · cases h
    cases r with
    | rol ha r =>
      rcases ha with ⟨_, _, ha | ⟨o, ha⟩⟩ | ⟨o, its, n, h1, h2, _⟩
      · exact .base (.lst ha)
      · exact .base (.frz ha)
      · exact .kList h1 h2
  · cases h
    cases r with
    | dctA ha _ _ r => exact .base (.dK ha)
    | dctN ha _ _ r => exact .dn ha
  · split at h
    · rename_i es e
      cases h
      cases r with
      | loc hl =>
        obtain ⟨vs, h1, h2⟩ := R.obj _ _ _ hl e
        exact .base (.lst h1)
    · rename_i t es e
      cases h
      cases r with
      | loc hl =>
        cases t with
        | false =>
          obtain ⟨vs, h1, h2⟩ := R.obj _ _ _ hl e
          exact .base (.dK h1)
        | true =>
          obtain ⟨vs, h1, h2⟩ := R.obj _ _ _ hl e
          exact .dn h1
    · cases h
def tyNames : List String := ["NoneType", "bool", "int", "str", "tuple", "list", "dict"]
theorem tyOf_mem {y : D} {t : String} (h : tyOf st y = some t) : t ∈ tyNames := by
  cases y <;> simp only [tyOf] at h <;> try (cases h; done)
  all_goals first
    | (cases h; decide)
    | (split at h <;> first | (cases h; decide) | cases h)
def clsNames : List String := ["int", "bool", "str", "tuple", "list", "dict"]
theorem kit_isa_all : (tyNames.all fun t => clsNames.all fun c => decide (kitB t c = some (isa t c))) = true := by decide +kernel
theorem kit_isa {t c : String} (ht : t ∈ tyNames) (hc : c ∈ clsNames) : PySem.W.kitOne K (.type t) (.type c) = some (isa t c) :=
  kit_ty (of_decide_eq_true (List.all_eq_true.mp (List.all_eq_true.mp kit_isa_all t ht) c hc))
end

theorem CallR.or {X : Cx} {f : Value} {r r' : List V → Hp → VK → Prop} (h : CallR X f r) (h' : CallR X f r') : CallR X f (fun xs H Q => r xs H Q ∨ r' xs H Q) := by
  intro pins s σ H xs us Q I rx q
  rcases q with q | q
  · exact h pins s σ H xs us Q I rx q
  · exact h' pins s σ H xs us Q I rx q
section
variable {X : Cx} {B : Base} {W : Wish} {a b c e : Expr} {ma mb mc m : E} {pos p p2 : Pos}
/-- f(e) for a built-in f of one argument; f: what comes of the value -/
def CallS (X : Cx) (f : Value) (g : Store → D → Option D) : Prop := ∃ r : List V → Hp → VK → Prop, CallR X f r ∧ ∀ {ρ μ : List Addr} {st : Store} {H : Hp} {v : V} {x d : D} {Q : VK}, Rel X.K ⟨X.nm, ρ⟩ μ st H → RD X.K ⟨X.nm, ρ⟩ μ H v x → g st x = some d →
  (∀ w H', Step μ H μ H' → Rel X.K ⟨X.nm, ρ⟩ μ st H' → RD X.K ⟨X.nm, ρ⟩ μ H' w d → Q w H') → r [v] H Q
def eU' (g : Store → D → Option D) (a : E) : E := fun σ => bnd (a σ) fun x => look fun st => g st x
theorem cs_read {g : Store → D → Option D} {r : List V → Hp → VK → Prop} (hs : ∀ {ρ μ : List Addr} {st : Store} {H : Hp} {v : V} {x d : D} {Q : VK}, Rel X.K ⟨X.nm, ρ⟩ μ st H → RD X.K ⟨X.nm, ρ⟩ μ H v x → g st x = some d →
  (∀ w H', Step μ H μ H' → Rel X.K ⟨X.nm, ρ⟩ μ st H' → RD X.K ⟨X.nm, ρ⟩ μ H' w d → Q w H') → r [v] H Q) : ∀ σ H Q, tM X.K ⟨X.nm, B.ρ⟩ B W (eU' g ma) σ H Q → tCB r (tCons (tM X.K ⟨X.nm, B.ρ⟩ B W ma) tNil) σ H Q := by
  rintro σ H Q ⟨μ, st, env, n, r, h, hq⟩
  refine first n h (res_ex hq) fun d st1 μ1 H1 v h1 s1 n1 r1 => ?_
  obtain ⟨d2, e2, rfl⟩ := look_inv h1
  exact hs n1.rel r1 e2 fun w H' s R rd => hq _ _ _ (s1.trans n1.rel s) R rd
theorem ce_callB {x : Str} {id : String} {g : Store → D → Option D} (hc : CallS X (.builtin id) g) (hg : Gl X x) (hm : X.mg x = none) (hv : bootBuiltins x = some (.builtin id)) (ha : CE X B W a ma) (hn : x ≠ "__name__" := by decide) (hdb : (x == ("__debug__" : Str)) = false := by decide)
    (he : starEach (a :: []) X.env = (false, eval a X.env) :: starEach [] X.env := by rfl) (hpl : (backTo pos (starEach [] X.env)).any (·.1) = false := by rfl) : CE X B W (.Call (.Name x p) [a] [] pos) (eU' g ma) := by
  obtain ⟨r, hr, hs⟩ := hc
  exact PE.imp (pe_callB hr hg hm hv (pa_cons ha pa_nil he) hn hdb he hpl) (cs_read hs)
theorem ce_callTy {x : Str} {id : String} {g : Store → D → Option D} (hc : CallS X (.type id) g) (hg : Gl X x) (hm : X.mg x = none) (hv : bootBuiltins x = some (.type id)) (ha : CE X B W a ma) (hn : x ≠ "__name__" := by decide) (hdb : (x == ("__debug__" : Str)) = false := by decide)
    (he : starEach (a :: []) X.env = (false, eval a X.env) :: starEach [] X.env := by rfl) (hpl : (backTo pos (starEach [] X.env)).any (·.1) = false := by rfl) : CE X B W (.Call (.Name x p) [a] [] pos) (eU' g ma) := by
  obtain ⟨r, hr, hs⟩ := hc
  exact PE.imp (pe_callTy hr hg hm hv (pa_cons ha pa_nil he) hn hdb he hpl) (cs_read hs)
def gLen (st : Store) (x : D) : Option D := match dLen st x with | some n => some (.int n) | none => none
def rLenD (X : Cx) : List V → Hp → VK → Prop := fun xs H Q => ∃ (ρ μ : List Addr) (t : Bool) (kds : List (D × D)) (a : Addr), xs = [.ref a] ∧ DRep X.K ⟨X.nm, ρ⟩ μ H a t kds ∧ Q (.int kds.length) H
theorem call_lenD : CallR X (.builtin "len") (rLenD X) := by
  intro pins s σ H xs us Q I r h
  obtain ⟨ρ, μ, t, kds, a, rfl, rep, q⟩ := h
  obtain ⟨u, rfl, rx⟩ := vals1 r
  cases rx
  cases t with
  | false =>
    obtain ⟨kvs, e, r⟩ := rep
    refine d_len I (.inl e) fun t s' I' => ⟨.int kds.length, H, I', ⟨t, by rw [r.length]⟩, q⟩
  | true =>
    obtain ⟨nvs, e, r⟩ := rep
    obtain ⟨z, hd, xs, rel, dd⟩ := dn_dict (P := X.prog) (w := X.w) I.hok e r
    have hl : xs.length = kds.length := by rw [← Paired.length rel, r.length]
    refine call_len_dictH hd dd (by rw [← Paired.length rel]; rw [sizeLine_eq] at z; omega) ⟨.int kds.length, H, I.tok _, ⟨_, by rw [hl]⟩, q⟩
theorem cs_len : CallS X (.builtin "len") gLen := by
  refine ⟨_, CallR.or call_len call_lenD, ?_⟩
  intro ρ μ st H v x d Q R rv h q
  unfold gLen at h
  split at h
  · rename_i n e
    cases h
    have fin : ∀ {n : Nat}, LenV X.K v H n → dLen st x = some (n : Int) → (∃ x n, [v] = [x] ∧ LenV X.K x H n ∧ Q (.int n) H) ∨ rLenD X [v] H Q := fun {k} hl hk => by
      rw [e] at hk
      cases hk
      exact .inl ⟨v, k, rfl, hl, q _ _ (Step.refl _ _) R (.int _)⟩
    have sq : ∀ {ds}, seqOf st x = some ds → dLen st x = some (ds.length : Int) → (∃ x n, [v] = [x] ∧ LenV X.K x H n ∧ Q (.int n) H) ∨ rLenD X [v] H Q := fun {ds} h1 h2 => by
      obtain ⟨a, vs, rfl, hs, r⟩ := seq_of R rv h1
      refine fin (n := ds.length) ?_ h2
      rcases hs with hs | hs
      · exact .inl ⟨vs, hs, r.length.symm⟩
      · exact .inr ⟨vs, hs, r.length.symm⟩
    cases hd : dctOf st x with
    | some p =>
      obtain ⟨t, kds⟩ := p
      obtain ⟨a, rfl, rep⟩ := dct_of R rv hd
      have e' : n = (kds.length : Int) := by
        cases x <;> simp only [dctOf] at hd <;> try (cases hd; done)
        · cases hd; simp only [dLen, dctOf] at e; exact (Option.some.inj e).symm
        · simp only [dLen, dctOf] at e
          rw [hd] at e
          exact (Option.some.inj e).symm
      subst e'
      exact .inr ⟨ρ, μ, t, kds, a, rfl, rep, q _ _ (Step.refl _ _) R (.int _)⟩
    | none =>
      have nod : (∀ y, x ≠ .str y) → dLen st x = (match seqOf st x with | some ds => some (ds.length : Int) | none => none) := fun hs => by
        unfold dLen
        split
        · exact absurd rfl (hs _)
        · first | (rw [hd]; done) | (rw [hd]; rfl)
      by_cases hs : ∃ y, x = .str y
      · obtain ⟨y, rfl⟩ := hs
        simp only [dLen] at e
        split at e
        · rename_i hz
          cases e
          cases rv
          exact .inl ⟨_, y.length, rfl, ⟨oklen hz, rfl⟩, q _ _ (Step.refl _ _) R (.int _)⟩
        · cases e
      · have hx := nod fun y z => hs ⟨y, z⟩
        cases h1 : seqOf st x with
        | none => rw [hx, h1] at e; cases e
        | some ds => exact sq h1 (by rw [hx, h1])
  · cases h
def gU (f : D → Option D) (_ : Store) (x : D) : Option D := f x
theorem cs_abs : CallS X (.builtin "abs") (gU uAbs) := by
  refine ⟨_, call_abs, ?_⟩
  intro ρ μ st H v x d Q R rv h q
  cases x <;> simp only [gU, uAbs] at h <;> try (cases h; done)
  cases h; cases rv
  exact ⟨_, rfl, q _ _ (Step.refl _ _) R (.int _)⟩
theorem cs_int : CallS X (.type "int") (gU uInt) := by
  refine ⟨_, call_int1, ?_⟩
  intro ρ μ st H v x d Q R rv h q
  cases x <;> simp only [gU, uInt] at h <;> try (cases h; done)
  · cases h; cases rv
    exact .inr ⟨_, rfl, q _ _ (Step.refl _ _) R (.int _)⟩
  · cases h; cases rv
    exact .inl ⟨_, rfl, q _ _ (Step.refl _ _) R (.int _)⟩
def gTup (st : Store) (x : D) : Option D := match x with
  | .tup ds => some (.tup ds)
  | _ => (match lstOf st x with | some ds => some (.tup ds) | none => none)
theorem cs_tup : CallS X (.type "tuple") Mi.gTup := by
  refine ⟨_, call_tuple_of, ?_⟩
  intro ρ μ st H v x d Q R rv h q
  unfold Mi.gTup at h
  split at h
  · cases h
    cases rv with
    | tup ha r => exact ⟨_, _, rfl, .inr ⟨SqT.of ha, q _ _ (Step.refl _ _) R (.tup ha r)⟩⟩
  · split at h
    · rename_i ds e
      cases h
      obtain ⟨a, vs, rfl, hl, r⟩ := lst_of R rv e
      refine ⟨a, vs, rfl, .inl ⟨SqL.of hl, fun p hp => ?_⟩⟩
      have s : Step μ H μ (upd H p (.tup vs)) := Step.laid hp
      exact q _ _ s (R.laid hp) (.tup upd_same (r.step R s))
    · cases h
/-- list(x): a new list -/
theorem cl_list {x : Str} (hg : Gl X x) (hm : X.mg x = none) (hv : bootBuiltins x = some (.type "list")) (ha : CE X B W a ma) (hn : x ≠ "__name__" := by decide) (hdb : (x == ("__debug__" : Str)) = false := by decide)
    (he : starEach (a :: []) X.env = (false, eval a X.env) :: starEach [] X.env := by rfl) (hpl : (backTo pos (starEach [] X.env)).any (·.1) = false := by rfl) : CL X B W (.Call (.Name x p) [a] [] pos) (lOf ma) := by
  refine PE.imp (pe_callTy call_list_of hg hm hv (pa_cons ha pa_nil he) hn hdb he hpl) ?_
  rintro σ H Q ⟨μ, st, env, n, r, h, hq⟩
  refine first n h (resL_ex hq) fun d st1 μ1 H1 v h1 s1 n1 r1 => ?_
  obtain ⟨ds, e2, rfl⟩ := look_inv h1
  obtain ⟨a, vs, rfl, hs, rs⟩ := seq_of n1.rel r1 e2
  refine ⟨a, vs, rfl, hs, fun l hl => ?_⟩
  obtain ⟨a1, a2, a3, a4, a5⟩ := laid_list n.rel s1 n1.rel rs hl
  exact hq _ _ _ _ a1 a2 a3 a4 a5
/-- two lists, one behind the other -/
theorem cl_add (ha : CE X B W a ma) (hb : CE X B W b mb) : CL X B W (.BinOp a .Add b pos) (lAdd ma mb) := by
  refine PE.imp (pe_op op_cat ha hb) ?_
  rintro σ H Q ⟨μ, st, env, n, r, h, hq⟩
  refine first n h (resL_ex hq) fun d st1 μ1 H1 v h1 s1 n1 r1 => ?_
  refine first n1 h1 (resL_ex hq) fun d2 st2 μ2 H2 u h2 s2 n2 r2 => ?_
  obtain ⟨ds, e, rfl⟩ := look_inv h2
  split at e
  · rename_i xs ys e1 e2
    split at e
    · rename_i hz
      cases e
      obtain ⟨a, vs, rfl, ha, ra⟩ := lst_of n2.rel (r1.step n1.rel s2) e1
      obtain ⟨b, ws, rfl, hb, rb⟩ := lst_of n2.rel r2 e2
      refine ⟨a, b, vs, ws, rfl, rfl, ha, hb, by rw [ra.length, rb.length]; exact oklen hz, fun p hp => ?_⟩
      obtain ⟨a1, a2, a3, a4, a5⟩ := laid_list n.rel (s1.trans n1.rel s2) n2.rel (ra.app rb) hp
      exact hq _ _ _ _ a1 a2 a3 a4 a5
    · cases e
  · cases e

/-! ### min, max of two -/
theorem ce_min2 (hc : X.calm = true) (hg : Gl X "min") (hm : X.mg "min" = none) (ha : CE X B W a ma) (hb : CE X B W b mb)
    (he : starEach (a :: [b]) X.env = (false, eval a X.env) :: starEach [b] X.env := by rfl) (he2 : starEach (b :: []) X.env = (false, eval b X.env) :: starEach [] X.env := by rfl) (hpl : (backTo pos (starEach [b] X.env)).any (·.1) = false := by rfl) :
    CE X B W (.Call (.Name "min" p) [a, b] [] pos) (eBin oMin ma mb) := by
  refine PE.imp (pe_callB (call_min2 hc) hg hm boot_min (pa_cons ha (pa_cons hb pa_nil he2) he) (by decide) (by decide) he hpl) ?_
  rintro σ H Q ⟨μ, st, env, n, r, h, hq⟩
  refine first n h (res_ex hq) fun d st1 μ1 H1 v h1 s1 n1 r1 => ?_
  refine first n1 h1 (res_ex hq) fun d2 st2 μ2 H2 u h2 s2 n2 r2 => ?_
  obtain ⟨d3, e3, rfl⟩ := need_inv h2
  cases d <;> cases d2 <;> simp only [oMin] at e3 <;> try (cases e3; done)
  cases e3; cases r1; cases r2
  exact ⟨_, _, rfl, hq _ _ _ (s1.trans n1.rel s2) n2.rel (.int _)⟩
theorem ce_max2 (hc : X.calm = true) (hg : Gl X "max") (hm : X.mg "max" = none) (ha : CE X B W a ma) (hb : CE X B W b mb)
    (he : starEach (a :: [b]) X.env = (false, eval a X.env) :: starEach [b] X.env := by rfl) (he2 : starEach (b :: []) X.env = (false, eval b X.env) :: starEach [] X.env := by rfl) (hpl : (backTo pos (starEach [b] X.env)).any (·.1) = false := by rfl) :
    CE X B W (.Call (.Name "max" p) [a, b] [] pos) (eBin oMax ma mb) := by
  refine PE.imp (pe_callB (call_max2 hc) hg hm boot_max (pa_cons ha (pa_cons hb pa_nil he2) he) (by decide) (by decide) he hpl) ?_
  rintro σ H Q ⟨μ, st, env, n, r, h, hq⟩
  refine first n h (res_ex hq) fun d st1 μ1 H1 v h1 s1 n1 r1 => ?_
  refine first n1 h1 (res_ex hq) fun d2 st2 μ2 H2 u h2 s2 n2 r2 => ?_
  obtain ⟨d3, e3, rfl⟩ := need_inv h2
  cases d <;> cases d2 <;> simp only [oMax] at e3 <;> try (cases e3; done)
  cases e3; cases r1; cases r2
  exact ⟨_, _, rfl, hq _ _ _ (s1.trans n1.rel s2) n2.rel (.int _)⟩

/-! ### isinstance -/
theorem ce_isi {c : String} {x : Str} (hmem : c ∈ clsNames) (hg : Gl X "isinstance") (hm : X.mg "isinstance" = none) (hgc : Gl X x) (hmc : X.mg x = none) (hvc : bootBuiltins x = some (.type c)) (ha : CE X B W a ma)
    (hnc : x ≠ "__name__" := by decide) (hdc : (x == ("__debug__" : Str)) = false := by decide)
    (he : starEach (a :: [.Name x p2]) X.env = (false, eval a X.env) :: starEach [.Name x p2] X.env := by rfl) (he2 : starEach (.Name x p2 :: []) X.env = (false, eval (.Name x p2) X.env) :: starEach [] X.env := by rfl) (hpl : (backTo pos (starEach [.Name x p2] X.env)).any (·.1) = false := by rfl) :
    CE X B W (.Call (.Name "isinstance" p) [a, .Name x p2] [] pos) (eIsi c ma) := by
  refine PE.imp (pe_callB call_isiM hg hm boot_isinstance (pa_cons ha (pa_cons (pe_bltn (v := .ty c) hgc hmc hvc rfl hnc hdc) pa_nil he2) he) (by decide) (by decide) he hpl) ?_
  rintro σ H Q ⟨μ, st, env, n, r, h, hq⟩
  refine first n h (res_ex hq) fun d st1 μ1 H1 v h1 s1 n1 r1 => ?_
  obtain ⟨d3, e3, rfl⟩ := look_inv h1
  unfold dIsi at e3
  cases et : tyOf st1 d with
  | none => rw [et] at e3; cases e3
  | some t =>
    rw [et] at e3
    cases e3
    exact ⟨v, .ty c, .type t, .type c, isa t c, rfl, .ty c, ty_of n1.rel r1 et, kit_isa (tyOf_mem et) hmem, hq _ _ _ s1 n1.rel (.bl _)⟩
theorem ce_isi2 {c c' : String} {x y : Str} {k : Nat} {p3 p4 : Pos} (hmem : c ∈ clsNames) (hmem' : c' ∈ clsNames) (hg : Gl X "isinstance") (hm : X.mg "isinstance" = none) (hgc : Gl X x) (hmc : X.mg x = none) (hvc : bootBuiltins x = some (.type c)) (hgd : Gl X y) (hmd : X.mg y = none) (hvd : bootBuiltins y = some (.type c')) (ha : CE X B W a ma)
    (hnc : x ≠ "__name__" := by decide) (hdc : (x == ("__debug__" : Str)) = false := by decide) (hnd : y ≠ "__name__" := by decide) (hdd : (y == ("__debug__" : Str)) = false := by decide)
    (he : starEach (a :: [.Tuple [.Name x p2, .Name y p3] k p4]) X.env = (false, eval a X.env) :: starEach [.Tuple [.Name x p2, .Name y p3] k p4] X.env := by rfl) (hpl : (backTo pos (starEach [.Tuple [.Name x p2, .Name y p3] k p4] X.env)).any (·.1) = false := by rfl) :
    CE X B W (.Call (.Name "isinstance" p) [a, .Tuple [.Name x p2, .Name y p3] k p4] [] pos) (eIsi2 c c' ma) := by
  refine PE.imp (pe_callB call_isiTM hg hm boot_isinstance (pa_cons ha (pa_cons (pe_tup (pa_cons (pe_bltn (v := .ty c) hgc hmc hvc rfl hnc hdc) (pa_cons (pe_bltn (v := .ty c') hgd hmd hvd rfl hnd hdd) pa_nil))) pa_nil) he) (by decide) (by decide) he hpl) ?_
  rintro σ H Q ⟨μ, st, env, n, r, h, hq⟩
  refine first n h (res_ex hq) fun d st1 μ1 H1 v h1 s1 n1 r1 => ?_
  obtain ⟨d3, e3, rfl⟩ := look_inv h1
  unfold dIsi2 at e3
  cases et : tyOf st1 d with
  | none => rw [et] at e3; cases e3
  | some t =>
    rw [et] at e3
    cases e3
    refine ⟨by show 2 ≤ sizeLine; decide, fun q hp => ?_⟩
    have s : Step μ1 H1 μ1 (upd H1 q (.tup [.ty c, .ty c'])) := Step.laid hp
    have R' := n1.rel.laid (o := .tup [.ty c, .ty c']) hp
    refine ⟨v, q, [.ty c, .ty c'], .type t, [.type c, .type c'], isa t c || isa t c', rfl, upd_same, .cons (.ty c) (.cons (.ty c') .nil), ty_of R' (r1.step n1.rel s) et, ?_, hq _ _ _ (s1.trans n1.rel s) R' (.bl _)⟩
    have k1 := kit_isa (K := X.K) (tyOf_mem et) hmem
    have k2 := kit_isa (K := X.K) (tyOf_mem et) hmem'
    refine kitAny_cons k1 (fun e => ?_) (fun e => by rw [e]; rfl)
    rw [e, Bool.false_or]
    exact kitAny_cons k2 (fun e => by rw [e]; exact kitAny_nil) (fun e => e)

/-! ### subscripts, slices -/
theorem atI_rd {K : PySem.W.Frag} {mg : Ctx} {μ : List Addr} {H : Hp} {vs : List V} {ds : List D} {i : Int} {d : D} (r : RDs K mg μ H vs ds) (h : itemAt ds i = some d) : ∃ v, atI vs i = some v ∧ RD K mg μ H v d := by
  unfold itemAt atI at h
  unfold atI
  rw [r.length]
  cases e : ixN ds.length i with
  | none => rw [e] at h; cases h
  | some j =>
    rw [e] at h
    exact r.get h
theorem IxR.or {r r' : R2} (h : IxR X r) (h' : IxR X r') : IxR X (fun x y H Q => r x y H Q ∨ r' x y H Q) := by
  intro va sl pins s σ H x y v u Q I rx ry q hs
  rcases q with q | q
  · exact h va sl pins s σ H x y v u Q I rx ry q hs
  · exact h' va sl pins s σ H x y v u Q I rx ry q hs
def rIxD (X : Cx) : R2 := fun x y H Q => ∃ (ρ μ : List Addr) (t : Bool) (kds : List (D × D)) (k : D) (a : Addr) (d : D), x = .ref a ∧ DRep X.K ⟨X.nm, ρ⟩ μ H a t kds ∧ RD X.K ⟨X.nm, ρ⟩ μ H y k ∧ dFind t kds k = some (some d) ∧ ∀ v, RD X.K ⟨X.nm, ρ⟩ μ H v d → Q v H
theorem ask_type {X : Cx} {pins : List (Addr × Obj)} {σ : L2.St} {H : Hp} {s : Shared} {a : Addr} {ρ μ : List Addr} {t : Bool} {kds : List (D × D)} (I : Inv X pins σ H s) (rep : DRep X.K ⟨X.nm, ρ⟩ μ H a t kds) : s.TypeIs (.ref a) "dict" := by
  cases t with
  | false =>
    obtain ⟨kvs, e, r⟩ := rep
    obtain ⟨_, _, vs, _, dd⟩ := dk_of I.hok e
    exact dd.typeIs
  | true =>
    obtain ⟨nvs, e, r⟩ := rep
    obtain ⟨z, hd, xs, rel, dd⟩ := dn_dict (P := X.prog) (w := X.w) I.hok e r
    exact dd.typeIs
theorem ix_dct (hu : X.A.units + 90 < cLine) : IxR X (rIxD X) := by
  intro value slice pins s σ H x y v u Q I rx ry h hs
  obtain ⟨ρ, μ, t, kds, k, a, d, rfl, rep, rk, hf, q⟩ := h
  cases rx
  exact tail_any (ask_type I rep) PySem.F.slot_dict_getitem.lookup (da_get hu I (ask I rep rk ry hf) fun v w' s' I' rw' rd => ⟨v, H, I', rw', q v rd⟩) hs
theorem ce_ix (hu : X.A.units + 90 < cLine) (ha : CE X B W a ma) (hb : CE X B W b mb) (hs : PlainIx b) : CE X B W (.Subscript a b pos) (eIx ma mb) := by
  refine PE.imp (pe_ix (IxR.or (IxR.or ix_list ix_tup) (ix_dct hu)) ha hb hs) ?_
  rintro σ H Q ⟨μ, st, env, n, r, h, hq⟩
  refine first n h (res_ex hq) fun d st1 μ1 H1 v h1 s1 n1 r1 => ?_
  refine first n1 h1 (res_ex hq) fun d2 st2 μ2 H2 u h2 s2 n2 r2 => ?_
  obtain ⟨d3, e3, rfl⟩ := look_inv h2
  unfold dIx at e3
  split at e3
  · rename_i t kvs e
    split at e3
    · rename_i o ho
      subst e3
      obtain ⟨a, rfl, rep⟩ := dct_of n2.rel (r1.step n1.rel s2) e
      exact .inr ⟨B.ρ, μ2, t, kvs, d2, a, d3, rfl, rep, r2, ho, fun v rv => hq _ _ _ (s1.trans n1.rel s2) n2.rel rv⟩
    · cases e3
  · split at e3
    · rename_i ds k e
      obtain ⟨a, vs, rfl, hsq, rs⟩ := seq_of n2.rel (r1.step n1.rel s2) e
      obtain ⟨w, hw, rw'⟩ := atI_rd rs e3
      cases r2
      rcases hsq with hsq | hsq
      · exact .inl (.inl ⟨a, vs, k, w, rfl, rfl, hsq, hw, hq _ _ _ (s1.trans n1.rel s2) n2.rel rw'⟩)
      · exact .inl (.inr ⟨a, vs, k, w, rfl, rfl, hsq, hw, hq _ _ _ (s1.trans n1.rel s2) n2.rel rw'⟩)
    · cases e3
/-- a slice's part -/
abbrev CP (X : Cx) (B : Base) (W : Wish) (e : Option Expr) (m : P) : Prop := PO X e (fun σ H Q => ∃ μ st env, Now X.K ⟨X.nm, B.ρ⟩ B μ st H σ env ∧ ∃ r, m env st = some r ∧ (match r with
  | .ok o st' => ∀ μ' H', Step μ H μ' H' → Rel X.K ⟨X.nm, B.ρ⟩ μ' st' H' → Q o H'
  | .ex x st' => W x env st'))
theorem PO.imp {e : Option Expr} {t t' : TO} (h : PO X e t) (k : ∀ σ H Q, t' σ H Q → t σ H Q) : PO X e t' := ⟨fun pins s σ H Q I hw => h.run pins s σ H Q I (k σ H Q hw)⟩
theorem cp_no : CP X B W none pNo := by
  refine PO.imp po_none ?_
  rintro σ H Q ⟨μ, st, env, n, r, h, hq⟩
  cases ret_inv h
  exact hq _ _ (Step.refl _ _) n.rel
theorem cp_at (ha : CE X B W a ma) : CP X B W (some a) (pAt ma) := by
  refine PO.imp (po_some ha) ?_
  rintro σ H Q ⟨μ, st, env, n, r, h, hq⟩
  have hx : ∀ x st1, r = .ex x st1 → W x env st1 := fun x st1 e => by subst e; exact hq
  refine first n h hx fun d st1 μ1 H1 v h1 s1 n1 r1 => ?_
  obtain ⟨o, e, rfl⟩ := need_inv h1
  cases d <;> simp only at e <;> try (cases e; done)
  cases e; cases r1
  exact ⟨_, rfl, hq _ _ s1 n1.rel⟩
theorem cut_rd {K : PySem.W.Frag} {mg : Ctx} {μ : List Addr} {H : Hp} {vs : List V} {ds : List D} (r : RDs K mg μ H vs ds) (lo hi : Option Int) : RDs K mg μ H (cutV vs lo hi) (cutD ds lo hi) := by
  unfold cutV cutD
  rw [r.length]
  exact (r.drop _).take _
theorem cut_whole {ds : List D} {lo hi : Option Int} (h : HT.sIx ds.length 0 lo = 0 ∧ HT.sIx ds.length ds.length hi = ds.length) : cutD ds lo hi = ds := by
  unfold cutD
  rw [h.1, h.2]
  simp
theorem ce_sl {lo hi : Option Expr} {ml mh : P} (ha : CE X B W a ma) (hl : CP X B W lo ml) (hh : CP X B W hi mh) : CE X B W (.Subscript a (.Slice lo hi none p2) pos) (eSl ma ml mh) := by
  refine PE.imp (pe_slice (SlR.or sl_tupA sl_list) ha hl hh) ?_
  rintro σ H Q ⟨μ, st, env, n, r, h, hq⟩
  refine first n h (res_ex hq) fun d st1 μ1 H1 v h1 s1 n1 r1 => ?_
  rcases bnd_inv h1 with ⟨o1, st2, e1, h2⟩ | ⟨x, st2, e1, rfl⟩
  case inr => exact ⟨μ1, st1, env, n1, _, e1, hq⟩
  refine ⟨μ1, st1, env, n1, _, e1, fun μ2 H2 s2 R2 => ?_⟩
  have n2 := n1.next s2 R2
  rcases bnd_inv h2 with ⟨o2, st3, e2, h3⟩ | ⟨x, st3, e2, rfl⟩
  case inr => exact ⟨μ2, st2, env, n2, _, e2, hq⟩
  refine ⟨μ2, st2, env, n2, _, e2, fun μ3 H3 s3 R3 => ?_⟩
  have n3 := n2.next s3 R3
  have s4 := (s1.trans n1.rel s2).trans n2.rel s3
  have rd := (r1.step n1.rel s2).step n2.rel s3
  obtain ⟨d2, e3, rfl⟩ := look_inv h3
  unfold dSl at e3
  have fresh : ∀ {a : Addr} {vs : List V} {ds : List D}, v = .ref a → SqL X.K H3 a vs → RDs X.K ⟨X.nm, B.ρ⟩ μ3 H3 vs ds → d2 = .lst (cutD ds o1 o2) → rSlL X.K v o1 o2 H3 Q := fun {a vs ds} hv hs rs hd => by
    subst hd
    refine ⟨a, vs, hv, hs, fun p hp => ?_⟩
    obtain ⟨a1, a2, a3, a4, a5⟩ := laid_list n.rel s4 n3.rel (cut_rd rs o1 o2) hp
    exact hq _ _ _ a1 a2.free (.lst (a2.res p List.mem_cons_self).1 (List.nodup_cons.mp a2.rn).1 a4 a5.free)
  split at e3
  · cases e3
    cases rd with
    | @tup a vs ds ha r =>
      refine .inl ⟨a, vs, rfl, SqT.of ha, fun hw => ?_, fun _ p hp => ?_⟩
      · rw [r.length] at hw
        rw [cut_whole hw] at hq
        exact hq _ _ _ s4 n3.rel (.tup ha r)
      · have s : Step μ3 H3 μ3 (upd H3 p (.tup (cutV vs o1 o2))) := Step.laid hp
        exact hq _ _ _ (s4.trans n3.rel s) (n3.rel.laid hp) (.tup upd_same ((cut_rd r o1 o2).step n3.rel s))
  · cases e3
    cases rd with
    | lst _ _ ha r => exact .inr (fresh rfl (SqL.of ha) r rfl)
  · cases e3
    cases rd with
    | rol ha r => exact .inr (fresh rfl ha.sq r rfl)
  · split at e3
    · rename_i es e
      cases e3
      cases rd with
      | loc hl =>
        obtain ⟨vs, h1, h2⟩ := n3.rel.obj _ _ _ hl e
        exact .inr (fresh rfl (SqL.of h1) h2 rfl)
    · cases e3
  · cases e3
end
end Mi
end
set_option Elab.async false
set_option linter.all false
set_option autoImplicit false
set_option maxRecDepth 100000
set_option maxHeartbeats 2000000
/-! Mi: enumerate over a tuple. -/
namespace PySem
open Sem (wp)
open AutoSeq1 (wpAny_loadPart')
theorem meets_enumerate_newTup (l : Addr) (items : Array Value) (n : Nat) (dct : Option Addr) (sl : Array (Option Value)) :
    Meets (Builtin.«enumerate.__new__» ⟨[.type "enumerate", .ref l], []⟩) (fun _ R s => s.heap.get? l = some { cls := .type "tuple", dict := dct, data := .seq items n, slots := sl } ∧
      R (.ok (.ret (.ref (s.heap.push { cls := .type "tuple_iterator", data := .fields #[.ref l, .int 0 0] }).objs.size)))
        { s with heap := (s.heap.push { cls := .type "tuple_iterator", data := .fields #[.ref l, .int 0 0] }).push { cls := .type "enumerate", data := .fields #[.none, .bool false, .ref s.heap.objs.size, rawInt 0, .none, .none] } }) :=
  .of_wp fun prog w A R s h => by
    obtain ⟨hp, g, d, tk, os⟩ := s; obtain ⟨hl, h⟩ := h
    have hsub := sub_enumerate
    have hL : Heap.IsTuple (Shared.heap ⟨hp, g, d, tk, os⟩) l items := ⟨_, hl, rfl, n, rfl⟩
    wp_walk using wpAny_loadPart' hl
    refine wpAny_stack_any fun st => wpAny_pure ?_
    split
    · rename_i c _ _ _ _ _
      cases (c == Value.type "enumerate")
      · wp_walk using wpAny_loadPart' hl, wpAny_pyIter_tuple hL
        exact ⟨_, rfl, h⟩
      · wp_walk using wpAny_loadPart' hl, wpAny_pyIter_tuple hL
        exact ⟨_, rfl, h⟩
    · wp_walk using wpAny_loadPart' hl, wpAny_pyIter_tuple hL
      exact ⟨_, rfl, h⟩
section
variable {prog : Program} {w : World} {A : Around} {E : Value → Shared → Prop} {s : Shared}
theorem call_enumerate_tup {l : Addr} {items : Array Value} {Q : Value → Shared → Prop} (hL : s.heap.IsTuple l items)
    (h : ∀ h', IsEnum h' (s.heap.objs.size + 1) s.heap.objs.size 0 .none → h'.IsTupleIter s.heap.objs.size l 0 → h'.objs.size = s.heap.objs.size + 2 →
      (∀ b o, s.heap.get? b = some o → h'.get? b = some o) → Q (.ref (s.heap.objs.size + 1)) { s with heap := h' }) :
    wpAny (model prog w) A (call (.type "enumerate") [.ref l]) Q E s := by
  obtain ⟨⟨c, dct, dt, sl⟩, hl, hc, n, hd⟩ := hL
  replace hc : c = .type "tuple" := hc
  replace hd : dt = .seq items n := hd
  subst hc hd
  refine callType_new F.called_enumerate (by decide) (F.typeCall_enumerate_1 _) (F.newCall_enumerate_1 _) (fun obj => F.args_object_init_2 obj _) F.entry_enumerate_new
    (meets_enumerate_newTup l items n dct sl) ⟨hl, ?_⟩
  have hz : (s.heap.push { cls := .type "tuple_iterator", data := .fields #[.ref l, .int 0 0] }).objs.size = s.heap.objs.size + 1 := Heap.size_push ..
  show _ ∧ _
  rw [hz]
  have he : IsEnum ((s.heap.push { cls := .type "tuple_iterator", data := .fields #[.ref l, .int 0 0] }).push
      { cls := .type "enumerate", data := .fields #[.none, .bool false, .ref s.heap.objs.size, rawInt 0, .none, .none] }) (s.heap.objs.size + 1) s.heap.objs.size 0 .none := by
    have := Heap.get?_push_size (s.heap.push { cls := .type "tuple_iterator", data := .fields #[.ref l, .int 0 0] })
      (o := { cls := .type "enumerate", data := .fields #[.none, .bool false, .ref s.heap.objs.size, rawInt 0, .none, .none] }) rfl
    rw [hz] at this; exact this
  refine ⟨⟨_, he, rfl⟩, h _ he ⟨_, Heap.get?_push_of_some _ (Heap.get?_push_size _ rfl), rfl, rfl⟩ (by rw [Heap.size_push, hz]) fun b o x => Heap.get?_push_of_some _ (Heap.get?_push_of_some _ x)⟩
end
end PySem
namespace L2
open PySem PySem.Spec PyProof.Rows
/-- the tuple at a, its items in new pairs -/
def IteT (K : PySem.W.Frag) (a : Addr) : It :=
  ⟨fun i H => ∃ (xs : List V) (x : V), SqT K H a xs ∧ xs[i]? = some x, fun i H v H' => ∃ T x, v = .ref T ∧ H T = none ∧ H' = upd H T (.tup [.int (i : Nat), x]) ∧ ∀ xs, SqT K H a xs → xs[i]? = some x, fun i H => ∃ xs : List V, SqT K H a xs ∧ xs.length = i⟩
theorem turn_enumT {P : Program} {w : World} {K : PySem.W.Frag} {elts : List Expr} {kk : Nat} {tpos : Pos} (a e it : Addr) :
    Turn P w K (.Tuple elts kk tpos) (IteT K a) [e, it] e (fun i h => (∃ old, IsEnum h e it ((i : Nat) : Int) old) ∧ h.IsTupleIter it a i ∧ e ≠ it) where
  mem := by simp
  obj := fun i h st b hb => by
    obtain ⟨⟨old, he⟩, ⟨o, ho, hc, hd⟩, _⟩ := st
    have e' : b = e ∨ b = it := by simpa using hb
    rcases e' with z | z
    · rw [z]; exact ⟨_, he, fun v q => nomatch q⟩
    · rw [z]; exact ⟨o, ho, fun v q => by rw [hd] at q; cases q⟩
  keep := fun i h h' st k => let ⟨⟨old, he⟩, hi, hne⟩ := st; ⟨⟨old, k e (by simp) _ he⟩, hi.at fun o q => k it (by simp) o q, hne⟩
  item := by
    intro X hP hw hK hc i pins s σ H E I hf st hg
    subst hP hw hK
    obtain ⟨⟨old, he⟩, hit, hne⟩ := st
    obtain ⟨xs, x, hq, hx⟩ := hg
    obtain ⟨its, rv, p, hz⟩ := I.tuple hq
    obtain ⟨u, hu, ru⟩ := rv.get hx
    have hel : e < s.heap.objs.size := Heap.lt_size he
    have hil : it < s.heap.objs.size := by obtain ⟨_, q, _⟩ := hit; exact Heap.lt_size q
    have hai : a ≠ it := fun z => by
      obtain ⟨o, ho, hc, _⟩ := hit
      obtain ⟨o2, ho2, hc2, _⟩ := id p
      rw [z, ho] at ho2; cases ho2
      rw [hc] at hc2; exact absurd (Value.type.inj hc2) (by decide)
    have hea : e ∉ [it, a] := fun z => by
      have z' : e = it ∨ e = a := by simpa using z
      rcases z' with z | z
      · exact hne z
      · obtain ⟨o2, ho2, hc2, _⟩ := id p
        have he' : s.heap.get? e = some _ := he
        rw [z, ho2] at he'; cases he'
        exact absurd (Value.type.inj hc2) (by decide)
    have hin : i < its.toArray.size := by
      have q := (List.getElem?_eq_some_iff.mp hu).1
      simpa using q
    refine wpAny_pyNext_enum_itemD (Draws.tuple (A := X.A.in1) (I.ok.hd hc) it a hai its.toArray) he ⟨hit, p⟩ hin hne hea fun v h' tk hP ho hit' hT hsz hk => ?_
    have hv : v = u := by
      have e1 : its.toArray[i]? = some u := by simpa using hu
      rw [e1] at hP; exact (Option.some.inj hP).symm
    subst hv
    refine ⟨_, rfl, wpAny_letOwnedTupleGo_enum (s := { s with heap := h', toks := tk + 1 }) ho fun h'' he' sb => ?_⟩
    have hT2 : h''.get? s.heap.objs.size = some { cls := .type "tuple", data := .seq #[.int i tk, v] } := (sb.2 _ (Nat.ne_of_gt hel)).trans hT
    have new : ObjOk X.prog X.w (upd H s.heap.objs.size (.tup [.int (i : Nat), x])) h'' s.heap.objs.size (.tup [.int (i : Nat), x]) :=
      ⟨by show 2 ≤ sizeLine; decide, [.int i tk, v], .cons ⟨_, rfl⟩ (.cons ru .nil), ⟨_, hT2, rfl, _, rfl⟩⟩
    have I1 : Inv X pins σ (upd H s.heap.objs.size (.tup [.int (i : Nat), x])) { s with heap := h'', toks := tk + 1 } :=
      I.turnedNew (ch := [e, it]) (fun b ob hb q => (sb.2 b (fun z => hb (by simp [z]))).trans (hk b ob (fun z => hb (by simp [z])) (fun z => hb (by simp [z])) q)) hf (Nat.le_refl _) new
    refine ⟨.ref s.heap.objs.size, _, I1, rfl, ⟨_, x, rfl, I.hok.fresh (Nat.le_refl _), rfl, fun ys hy => by rw [I.tuple_inj hy hq]; exact hx⟩, ⟨⟨v, ?_⟩, hit'.1.at fun o q => (sb.2 it (Ne.symm hne)).trans q, hne⟩, fun b hb => ?_⟩
    · have e1 : ((i + 1 : Nat) : Int) = (i : Int) + 1 := by omega
      rw [e1]; exact he'
    · have hb' : b < s.heap.objs.size := by
        have e' : b = e ∨ b = it := by simpa using hb
        rcases e' with z | z
        · rw [z]; exact hel
        · rw [z]; exact hil
      rw [upd_ne (Nat.ne_of_lt hb')]
      exact (hf b hb).1
  done := by
    intro X hP hw hK hc i pins s σ H E I hf st hg
    subst hP hw hK
    obtain ⟨⟨old, he⟩, hit, hne⟩ := st
    obtain ⟨xs, hq, hx⟩ := hg
    obtain ⟨its, rv, p, hz⟩ := I.tuple hq
    obtain ⟨f0, f1, f2, f3, f4, f5⟩ := hf it (by simp)
    have hl := rv.length
    have hai : a ≠ it := fun z => by
      obtain ⟨o, ho, hc, _⟩ := hit
      obtain ⟨o2, ho2, hc2, _⟩ := id p
      rw [z, ho] at ho2; cases ho2
      rw [hc] at hc2; exact absurd (Value.type.inj hc2) (by decide)
    have hn : i = its.toArray.size := by simp; omega
    subst hn
    exact wpAny_pyNext_enum_endD (Draws.tuple (A := X.A.in1) (I.ok.hd hc) it a hai its.toArray) he ⟨hit, p⟩ fun h' eb => ⟨rfl, I.turned (t' := s.toks) (fun b o hb q => eb b o hb q) f0 f1 f3 f4 f5⟩
  self := fun A i s Q E st h => let ⟨⟨_, he⟩, _⟩ := st; wpAny_pyIter_enum he h
/-- enumerate(x), x a list or a tuple -/
def iEnumA (K : PySem.W.Frag) (ta : TA) : TI := fun σ H R => ta σ H fun vs H1 => ∃ a xs, vs = [.ref a] ∧ ((SqL K H1 a xs ∧ R (Ite K a) H1) ∨ (SqT K H1 a xs ∧ R (IteT K a) H1))
theorem pi_enumA {X : Cx} {e : Expr} {ta : TA} {p pos tpos : Pos} {elts : List Expr} {kk : Nat} (hg : Gl X "enumerate") (hm : X.mg "enumerate" = none) (ha : PA X [e] ta) (hs : starEach [e] X.env = [(false, eval e X.env)] := by rfl) :
    PI X (.Tuple elts kk tpos) (.Call (.Name "enumerate" p) [e] [] pos) (iEnumA X.K ta) := by
  refine ⟨fun pins s σ H R I h => ?_⟩
  refine Call_ (ld_blt I hg hm boot_enumerate (PyProof.Rows.callWith_type1 (thn (ha.run pos pins s σ H _ I h) fun us s1 ⟨vs, H1, I1, r1, q1⟩ => ?_) hs rfl))
  obtain ⟨a, xs, ex, q⟩ := q1
  subst ex
  cases r1 with
  | cons r rr =>
    cases rr
    cases r
    have fr : ∀ b ∈ [s1.heap.objs.size + 1, s1.heap.objs.size], FpOk X pins H1 b := fun b hb => by
      have e' : b = s1.heap.objs.size + 1 ∨ b = s1.heap.objs.size := by simpa using hb
      have hle : s1.heap.objs.size ≤ b := by
        rcases e' with z | z
        · rw [z]; exact Nat.le_add_right _ _
        · rw [z]; exact Nat.le_refl _
      exact I1.fpOk hle (I1.hok.fresh hle)
    rcases q with ⟨hq, q⟩ | ⟨hq, q⟩
    · obtain ⟨its, rv, p', hz⟩ := I1.list hq
      refine call_enumerate_list p'.isList fun h' he hit hsz hk => wpAny_pyIter_enum he ?_
      have I2 : Inv X pins σ H1 { s1 with heap := h' } := I1.kept (t' := s1.toks) hk
      exact ⟨s1.heap.objs.size + 1, [s1.heap.objs.size + 1, s1.heap.objs.size], _, _, H1, rfl, I2, turn_enum a (s1.heap.objs.size + 1) s1.heap.objs.size, ⟨⟨.none, he⟩, hit, Nat.succ_ne_self _⟩, fr, q⟩
    · obtain ⟨its, rv, p', hz⟩ := I1.tuple hq
      refine call_enumerate_tup p' fun h' he hit hsz hk => wpAny_pyIter_enum he ?_
      have I2 : Inv X pins σ H1 { s1 with heap := h' } := I1.kept (t' := s1.toks) hk
      exact ⟨s1.heap.objs.size + 1, [s1.heap.objs.size + 1, s1.heap.objs.size], _, _, H1, rfl, I2, turn_enumT a (s1.heap.objs.size + 1) s1.heap.objs.size, ⟨⟨.none, he⟩, hit, Nat.succ_ne_self _⟩, fr, q⟩
end L2
set_option Elab.async false
set_option linter.all false
set_option autoImplicit false
set_option maxRecDepth 100000
set_option maxHeartbeats 2000000
/-! Mi: what loops and comprehensions walk; comprehensions. -/
noncomputable section
namespace Mi
open PySem PySem.Spec PyProof.Rows L2
/-- an item that is handed out: a value, or a new tuple of values -/
inductive Item where
  | one (v : V)
  | tup (vs : List V)
def Hands (H : Hp) : Item → V → Hp → Prop
  | .one v, x, H' => x = v ∧ H' = H
  | .tup vs, x, H' => ∃ p, x = .ref p ∧ H p = none ∧ H' = upd H p (.tup vs)
def ItR (K : PySem.W.Frag) (mg : Ctx) (μ : List Addr) (H : Hp) : Item → D → Prop
  | .one v, d => RD K mg μ H v d
  | .tup vs, d => ∃ ds, d = .tup ds ∧ RDs K mg μ H vs ds
inductive ItsR (K : PySem.W.Frag) (mg : Ctx) (μ : List Addr) (H : Hp) : List Item → List D → Prop where
  | nil : ItsR K mg μ H [] []
  | cons {t : Item} {d : D} {ts : List Item} {ds : List D} : ItR K mg μ H t d → ItsR K mg μ H ts ds → ItsR K mg μ H (t :: ts) (d :: ds)
def Kp (μ ρ : List Addr) (H H' : Hp) : Prop := ∀ a o, H a = some o → a ∉ μ → a ∉ ρ → H' a = some o
def SrcR (K : PySem.W.Frag) (mg : Ctx) (μ : List Addr) (H : Hp) (J : It) : Src → Prop
  | .fix ds => ∃ its, ItsR K mg μ H its ds ∧ ∀ H2, Kp μ mg.ρ H H2 → ∀ i, (∀ t, its[i]? = some t → J.go i H2 ∧ ∀ x H3, J.yld i H2 x H3 → Hands H2 t x H3) ∧ (its.length = i → J.stop i H2)
  | .live l _ => ∃ a, μ[l]? = some a ∧ J = Itl K a
section
variable {K : PySem.W.Frag} {mg : Ctx} {μ μ' : List Addr} {H H' : Hp} {st : Store}
theorem Step.kp {ρ : List Addr} (s : Step μ H μ' H') : Kp μ ρ H H' := fun a o h h1 _ => s.keep a o h h1
theorem ItR.step (R : Rel K mg μ st H) (s : Step μ H μ' H') {t : Item} {d : D} (h : ItR K mg μ H t d) : ItR K mg μ' H' t d := by
  cases t with
  | one v => exact RD.step R s h
  | tup vs => obtain ⟨ds, e, r⟩ := h; exact ⟨ds, e, r.step R s⟩
theorem ItsR.step (R : Rel K mg μ st H) (s : Step μ H μ' H') : ∀ {ts : List Item} {ds : List D}, ItsR K mg μ H ts ds → ItsR K mg μ' H' ts ds
  | _, _, .nil => .nil
  | _, _, .cons h r => .cons (h.step R s) (ItsR.step R s r)
theorem ItsR.step' {c : Ctx} (R : Rel K c μ st H) (s : Step μ H μ' H') : ∀ {ts : List Item} {ds : List D}, ItsR K mg μ H ts ds → ItsR K mg μ' H' ts ds
  | _, _, .nil => .nil
  | _, _, .cons (t := t) h r => .cons (by
      cases t with
      | one v => exact RD.step R s h
      | tup vs => obtain ⟨ds, e, r⟩ := h; exact ⟨ds, e, r.step R s⟩) (ItsR.step' R s r)
theorem ItsR.hold (R : Rel K mg μ st H) {p : Addr} (h0 : H p = none) : ∀ {ts : List Item} {ds : List D}, ItsR K mg μ H ts ds → ItsR K (mg.add p) μ H ts ds
  | _, _, .nil => .nil
  | _, _, .cons (t := t) h r => .cons (by
      cases t with
      | one v => exact RD.keep R h0 (.inr trivial) h
      | tup vs => obtain ⟨ds, e, r⟩ := h; exact ⟨ds, e, r.keep R h0 (.inr trivial)⟩) (ItsR.hold R h0 r)
theorem ItsR.get : ∀ {ts : List Item} {ds : List D} {i : Nat} {d : D}, ItsR K mg μ H ts ds → ds[i]? = some d → ∃ t, ts[i]? = some t ∧ ItR K mg μ H t d
  | _, _, _, _, .nil, h => by simp at h
  | _, _, 0, _, .cons r _, h => by simp at h; subst h; exact ⟨_, rfl, r⟩
  | _, _, i + 1, _, .cons _ t, h => by
    obtain ⟨v, h1, h2⟩ := ItsR.get (i := i) t (by simpa using h)
    exact ⟨v, by simpa using h1, h2⟩
theorem ItsR.length : ∀ {ts : List Item} {ds : List D}, ItsR K mg μ H ts ds → ts.length = ds.length
  | _, _, .nil => rfl
  | _, _, .cons _ r => by rw [List.length_cons, List.length_cons, ItsR.length r]
theorem ItsR.ones : ∀ {vs : List V} {ds : List D}, RDs K mg μ H vs ds → ItsR K mg μ H (vs.map .one) ds
  | _, _, .nil => .nil
  | _, _, .cons h r => .cons h (ItsR.ones r)
/-- the item handed out -/
theorem hands_rd (R : Rel K mg μ st H) {t : Item} {d : D} {x : V} (h : ItR K mg μ H t d) (y : Hands H t x H') : Step μ H μ H' ∧ Rel K mg μ st H' ∧ RD K mg μ H' x d := by
  cases t with
  | one v =>
    obtain ⟨rfl, rfl⟩ := y
    exact ⟨Step.refl _ _, R, h⟩
  | tup vs =>
    obtain ⟨p, rfl, hp, rfl⟩ := y
    obtain ⟨ds, rfl, r⟩ := h
    have s : Step μ H μ (upd H p (.tup vs)) := Step.laid hp
    exact ⟨s, R.laid hp, .tup upd_same (r.step R s)⟩
/-- lists, tuples by value; ranges -/
theorem src_list {a : Addr} {vs : List V} {ds : List D} (hn : a ∉ μ) (hr : a ∉ mg.ρ) (h : H a = some (.lst vs)) (r : RDs K mg μ H vs ds) : SrcR K mg μ H (Itl K a) (.fix ds) := by
  refine ⟨vs.map .one, ItsR.ones r, fun H2 k i => ⟨fun t ht => ?_, fun e => ?_⟩⟩
  · have h2 : SqL K H2 a vs := SqL.of (k a _ h hn hr)
    rw [List.getElem?_map] at ht
    cases e : vs[i]? with
    | none => rw [e] at ht; cases ht
    | some v =>
      rw [e] at ht; cases ht
      exact ⟨⟨vs, v, h2, e⟩, fun x H3 y => ⟨by have := y.2 vs h2; rw [e] at this; exact (Option.some.inj this).symm, y.1⟩⟩
  · exact ⟨vs, SqL.of (k a _ h hn hr), by rw [List.length_map] at e; omega⟩
theorem src_ro {a : Addr} {vs : List V} {ds : List D} (h : RoAt K mg μ H a vs) (r : RDs K mg μ H vs ds) : SrcR K mg μ H (Itl K a) (.fix ds) := by
  have hk : ∀ H2, Kp μ mg.ρ H H2 → SqL K H2 a vs := fun H2 k => by
    rcases h with ⟨hn, hr, h | ⟨o, h⟩⟩ | h
    · exact .inl (.inl (k a _ h hn hr))
    · exact .inl (.inr ⟨o, k a _ h hn hr⟩)
    · exact .inr h
  refine ⟨vs.map .one, ItsR.ones r, fun H2 k i => ⟨fun t ht => ?_, fun e => ?_⟩⟩
  · have h2 : SqL K H2 a vs := hk H2 k
    rw [List.getElem?_map] at ht
    cases e : vs[i]? with
    | none => rw [e] at ht; cases ht
    | some v =>
      rw [e] at ht; cases ht
      exact ⟨⟨vs, v, h2, e⟩, fun x H3 y => ⟨by have := y.2 vs h2; rw [e] at this; exact (Option.some.inj this).symm, y.1⟩⟩
  · exact ⟨vs, hk H2 k, by rw [List.length_map] at e; omega⟩
theorem src_tup (R : Rel K mg μ st H) {a : Addr} {vs : List V} {ds : List D} (h : H a = some (.tup vs)) (r : RDs K mg μ H vs ds) : SrcR K mg μ H (Itt K a) (.fix ds) := by
  have hn := R.notTup h
  have hr := R.notTupR h
  refine ⟨vs.map .one, ItsR.ones r, fun H2 k i => ⟨fun t ht => ?_, fun e => ?_⟩⟩
  · have h2 : SqT K H2 a vs := SqT.of (k a _ h hn hr)
    rw [List.getElem?_map] at ht
    cases e : vs[i]? with
    | none => rw [e] at ht; cases ht
    | some v =>
      rw [e] at ht; cases ht
      exact ⟨⟨vs, v, h2, e⟩, fun x H3 y => ⟨by have := y.2 vs h2; rw [e] at this; exact (Option.some.inj this).symm, y.1⟩⟩
  · exact ⟨vs, SqT.of (k a _ h hn hr), by rw [List.length_map] at e; omega⟩
theorem its_range (lo : Int) : ∀ n s : Nat, ItsR K mg μ H (((List.range' s n).map fun (k : Nat) => V.int (lo + k)).map .one) ((List.range' s n).map fun (k : Nat) => D.int (lo + k))
  | 0, s => .nil
  | n + 1, s => by
    rw [List.range'_succ]
    exact .cons (.int _) (its_range lo n (s + 1))
theorem src_range (lo hi : Int) : SrcR K mg μ H (Itr lo (hi - lo).toNat) (.fix (rangeD lo hi)) := by
  refine ⟨((List.range (hi - lo).toNat).map fun (k : Nat) => V.int (lo + k)).map .one, ?_, fun H2 k i => ⟨fun t ht => ?_, fun e => ?_⟩⟩
  · unfold rangeD
    rw [List.range_eq_range']
    exact its_range lo _ 0
  · rw [List.getElem?_map, List.getElem?_map] at ht
    by_cases hi : i < (hi - lo).toNat
    · rw [List.getElem?_range hi] at ht
      cases ht
      exact ⟨hi, fun x H3 y => ⟨y.2, y.1⟩⟩
    · rw [List.getElem?_eq_none (by simpa using Nat.le_of_not_lt hi)] at ht
      cases ht
  · simp at e
    exact Nat.le_of_eq e
theorem its_enum : ∀ {vs : List V} {ds : List D} (n : Nat), RDs K mg μ H vs ds → ItsR K mg μ H ((vs.zipIdx n).map fun q => Item.tup [.int (q.2 : Nat), q.1]) (enumFrom n ds)
  | _, _, _, .nil => .nil
  | _, _, n, .cons h r => .cons ⟨_, rfl, .cons (.int _) (.cons h .nil)⟩ (its_enum (n + 1) r)
theorem zipIdx_get {vs : List V} {i : Nat} {t : Item} (h : ((vs.zipIdx 0).map fun q => Item.tup [.int (q.2 : Nat), q.1])[i]? = some t) : ∃ v, vs[i]? = some v ∧ t = .tup [.int (i : Nat), v] := by
  rw [List.getElem?_map] at h
  cases e : (vs.zipIdx 0)[i]? with
  | none => rw [e] at h; cases h
  | some q =>
    rw [e] at h
    cases h
    rw [List.getElem?_zipIdx] at e
    cases e2 : vs[i]? with
    | none => rw [e2] at e; cases e
    | some v => rw [e2] at e; cases e; exact ⟨v, rfl, by simp⟩
theorem src_enumL {a : Addr} {vs : List V} {ds : List D} (hn : a ∉ μ) (hr : a ∉ mg.ρ) (h : H a = some (.lst vs)) (r : RDs K mg μ H vs ds) : SrcR K mg μ H (Ite K a) (.fix (enumFrom 0 ds)) := by
  refine ⟨_, its_enum 0 r, fun H2 k i => ⟨fun t ht => ?_, fun e => ?_⟩⟩
  · have h2 : SqL K H2 a vs := SqL.of (k a _ h hn hr)
    obtain ⟨v, hv, rfl⟩ := zipIdx_get ht
    refine ⟨⟨vs, v, h2, hv⟩, fun x H3 y => ?_⟩
    obtain ⟨T, x', e1, e2, e3, e4⟩ := y
    have := e4 vs h2
    rw [hv] at this; cases this
    exact ⟨T, e1, e2, e3⟩
  · exact ⟨vs, SqL.of (k a _ h hn hr), by simp at e; omega⟩
theorem src_enumT (R : Rel K mg μ st H) {a : Addr} {vs : List V} {ds : List D} (h : H a = some (.tup vs)) (r : RDs K mg μ H vs ds) : SrcR K mg μ H (IteT K a) (.fix (enumFrom 0 ds)) := by
  have hn := R.notTup h
  have hr := R.notTupR h
  refine ⟨_, its_enum 0 r, fun H2 k i => ⟨fun t ht => ?_, fun e => ?_⟩⟩
  · have h2 : SqT K H2 a vs := SqT.of (k a _ h hn hr)
    obtain ⟨v, hv, rfl⟩ := zipIdx_get ht
    refine ⟨⟨vs, v, h2, hv⟩, fun x H3 y => ?_⟩
    obtain ⟨T, x', e1, e2, e3, e4⟩ := y
    have := e4 vs h2
    rw [hv] at this; cases this
    exact ⟨T, e1, e2, e3⟩
  · exact ⟨vs, SqT.of (k a _ h hn hr), by simpa using e⟩
theorem its_zip : ∀ {vs ws : List V} {ds es : List D}, RDs K mg μ H vs ds → RDs K mg μ H ws es → ItsR K mg μ H ((vs.zip ws).map fun q => Item.tup [q.1, q.2]) (zipD ds es)
  | _, _, _, _, .nil, _ => .nil
  | _, _, _, _, .cons _ _, .nil => .nil
  | _, _, _, _, .cons h r, .cons h' r' => .cons ⟨_, rfl, .cons h (.cons h' .nil)⟩ (its_zip r r')
theorem zip_get {vs ws : List V} {i : Nat} {t : Item} (h : ((vs.zip ws).map fun q => Item.tup [q.1, q.2])[i]? = some t) : ∃ v w, vs[i]? = some v ∧ ws[i]? = some w ∧ t = .tup [v, w] := by
  rw [List.getElem?_map] at h
  cases e : (vs.zip ws)[i]? with
  | none => rw [e] at h; cases h
  | some q =>
    rw [e] at h
    cases h
    rw [List.getElem?_zip_eq_some] at e
    exact ⟨q.1, q.2, e.1, e.2, rfl⟩
theorem src_zipL {a b : Addr} {vs ws : List V} {ds es : List D} (hn : a ∉ μ) (hr : a ∉ mg.ρ) (h : H a = some (.lst vs)) (r : RDs K mg μ H vs ds) (hn' : b ∉ μ) (hr' : b ∉ mg.ρ) (h' : H b = some (.lst ws)) (r' : RDs K mg μ H ws es) : SrcR K mg μ H (Itz K a b) (.fix (zipD ds es)) := by
  refine ⟨_, its_zip r r', fun H2 k i => ⟨fun t ht => ?_, fun e => ?_⟩⟩
  · have h2 : SqL K H2 a vs := SqL.of (k a _ h hn hr)
    have h2' : SqL K H2 b ws := SqL.of (k b _ h' hn' hr')
    obtain ⟨v, w, hv, hw, rfl⟩ := zip_get ht
    refine ⟨⟨vs, ws, v, w, h2, h2', hv, hw⟩, fun x H3 y => ?_⟩
    obtain ⟨T, x', y', e1, e2, e3, e4, e5⟩ := y
    have := e4 vs h2
    rw [hv] at this; cases this
    have := e5 ws h2'
    rw [hw] at this; cases this
    exact ⟨T, e1, e2, e3⟩
  · refine ⟨vs, ws, SqL.of (k a _ h hn hr), SqL.of (k b _ h' hn' hr'), ?_⟩
    simp at e
    omega
theorem src_zipT (R : Rel K mg μ st H) {a b : Addr} {vs ws : List V} {ds es : List D} (h : H a = some (.tup vs)) (r : RDs K mg μ H vs ds) (h' : H b = some (.tup ws)) (r' : RDs K mg μ H ws es) : SrcR K mg μ H (RZ.ItzT K a b) (.fix (zipD ds es)) := by
  have hn := R.notTup h
  have hr := R.notTupR h
  have hn' := R.notTup h'
  have hr' := R.notTupR h'
  refine ⟨_, its_zip r r', fun H2 k i => ⟨fun t ht => ?_, fun e => ?_⟩⟩
  · have h2 : SqT K H2 a vs := SqT.of (k a _ h hn hr)
    have h2' : SqT K H2 b ws := SqT.of (k b _ h' hn' hr')
    obtain ⟨v, w, hv, hw, rfl⟩ := zip_get ht
    refine ⟨⟨vs, ws, v, w, h2, h2', hv, hw⟩, fun x H3 y => ?_⟩
    obtain ⟨T, x', y', e1, e2, e3, e4, e5⟩ := y
    have := e4 vs h2
    rw [hv] at this; cases this
    have := e5 ws h2'
    rw [hw] at this; cases this
    exact ⟨T, e1, e2, e3⟩
  · refine ⟨vs, ws, SqT.of (k a _ h hn hr), SqT.of (k b _ h' hn' hr'), ?_⟩
    simp at e
    omega
end

/-! ### the judgement -/
section
variable (K : PySem.W.Frag) (mg : Ctx) (B : Base) (W : Wish)
def tMI (m : I) : TI := fun σ H Rw => ∃ μ st env, Now K mg B μ st H σ env ∧ ∃ r, m env st = some r ∧ (match r with
  | .ok src st' => ∀ μ' H' J, Step μ H μ' H' → Rel K mg μ' st' H' → SrcR K mg μ' H' J src → (∀ l n, src = .live l n → ∃ ds, st'[l]? = some (.lst ds) ∧ ds.length = n) → Rw J H'
  | .ex x st' => W x env st')
end
abbrev CI (X : Cx) (B : Base) (W : Wish) (tg e : Expr) (m : I) : Prop := PI X tg e (tMI X.K ⟨X.nm, B.ρ⟩ B W m)
theorem PI.imp {X : Cx} {tg e : Expr} {t t' : TI} (h : PI X tg e t) (k : ∀ σ H Q, t' σ H Q → t σ H Q) : PI X tg e t' := ⟨fun pins s σ H Q I hw => h.run pins s σ H Q I (k σ H Q hw)⟩
/-- over a list or a tuple, whichever it is -/
theorem pi_seq {X : Cx} {tg l : Expr} {tl : TE} (hl : PE X l tl) : PI X tg l (fun σ H R => tl σ H fun x H1 => ∃ a, x = .ref a ∧ (((∃ xs, SqL X.K H1 a xs) ∧ R (Itl X.K a) H1) ∨ ((∃ xs, SqT X.K H1 a xs) ∧ R (Itt X.K a) H1))) := by
  refine ⟨fun pins s σ H R I h => ?_⟩
  refine thn (hl.run pins s σ H _ I h) fun v s1 ⟨x, H1, I1, r1, q1⟩ => ?_
  obtain ⟨a, e, hq⟩ := q1
  subst e
  cases r1
  rcases hq with ⟨⟨xs, hq⟩, q⟩ | ⟨⟨xs, hq⟩, q⟩
  · obtain ⟨its, rv, p, hz⟩ := I1.list hq
    refine wpAny_pyIter_list p.isList ?_
    refine ⟨s1.heap.objs.size, [s1.heap.objs.size], _, _, H1, rfl, I1.kept (t' := s1.toks) fun b o e => Heap.get?_push_of_some _ e, turn_list a _, ⟨_, Heap.get?_push_size _ rfl, rfl, rfl⟩, fun b hb => ?_, q⟩
    have e : b = s1.heap.objs.size := by simpa using hb
    subst e
    exact I1.fpOk (Nat.le_refl _) (I1.hok.fresh (Nat.le_refl _))
  · obtain ⟨its, rv, p, hz⟩ := I1.tuple hq
    refine wpAny_pyIter_tuple (show s1.heap.IsTuple a its.toArray from p) ?_
    refine ⟨s1.heap.objs.size, [s1.heap.objs.size], _, _, H1, rfl, I1.kept (t' := s1.toks) fun b o e => Heap.get?_push_of_some _ e, turn_tuple a _, ⟨_, Heap.get?_push_size _ rfl, rfl, rfl⟩, fun b hb => ?_, q⟩
    have e : b = s1.heap.objs.size := by simpa using hb
    subst e
    exact I1.fpOk (Nat.le_refl _) (I1.hok.fresh (Nat.le_refl _))
section
variable {X : Cx} {B : Base} {W : Wish} {tg a b e : Expr} {ma mb m : E} {pos p : Pos}
/-- .. or a range -/
theorem pi_seqR {X : Cx} {tg l : Expr} {tl : TE} (hl : PE X l tl) : PI X tg l (fun σ H R => tl σ H fun x H1 => (∃ a, x = .ref a ∧ (((∃ xs, SqL X.K H1 a xs) ∧ R (Itl X.K a) H1) ∨ ((∃ xs, SqT X.K H1 a xs) ∧ R (Itt X.K a) H1))) ∨
    ∃ (a : Addr) (i j : Int), x = .ref a ∧ H1 a = some (.rng i j) ∧ (-(2 ^ 62) ≤ i ∧ i < 2 ^ 62 ∧ -(2 ^ 62) ≤ j ∧ j < 2 ^ 62) ∧ R (Itr i (j - i).toNat) H1) := by
  refine ⟨fun pins s σ H R I h => ?_⟩
  refine thn (hl.run pins s σ H _ I h) fun v s1 ⟨x, H1, I1, r1, q1⟩ => ?_
  rcases q1 with ⟨a, e, hq⟩ | ⟨a, i, j, e, ea, hb, q⟩
  case inr =>
    subst e
    cases r1
    obtain ⟨t, u, w, e3⟩ := (show ObjOk X.prog X.w H1 s1.heap a (.rng i j) from I1.hok a _ ea)
    obtain ⟨h1, h2, h3, h4⟩ := hb
    refine wpAny_pyIter_range (a := i) (b := j) (c := 1) (t := t) (u := u) (v := w) e3 (small_one h1 h2 h3 h4) ?_
    refine ⟨s1.heap.objs.size, [s1.heap.objs.size], _, _, H1, rfl, I1.kept (t' := s1.toks) fun b o e => Heap.get?_push_of_some _ e, turn_range _ i (j - i).toNat, ?_, fun b hb => ?_, q⟩
    · have e1 : i + ((0 : Nat) : Int) * 1 = i := by simp
      have e2 : (((j - i).toNat : Nat) : Int) - ((0 : Nat) : Int) = Builtin.Range.rangeSize i j 1 := by rw [rangeSize_one]; split <;> omega
      show IsRangeIter _ _ (i + ((0 : Nat) : Int) * 1) ((((j - i).toNat : Nat) : Int) - ((0 : Nat) : Int)) 1
      rw [e1, e2]
      exact Heap.get?_push_size _ rfl
    · have e : b = s1.heap.objs.size := by simpa using hb
      subst e
      exact I1.fpOk (Nat.le_refl _) (I1.hok.fresh (Nat.le_refl _))
  subst e
  cases r1
  rcases hq with ⟨⟨xs, hq⟩, q⟩ | ⟨⟨xs, hq⟩, q⟩
  · obtain ⟨its, rv, p, hz⟩ := I1.list hq
    refine wpAny_pyIter_list p.isList ?_
    refine ⟨s1.heap.objs.size, [s1.heap.objs.size], _, _, H1, rfl, I1.kept (t' := s1.toks) fun b o e => Heap.get?_push_of_some _ e, turn_list a _, ⟨_, Heap.get?_push_size _ rfl, rfl, rfl⟩, fun b hb => ?_, q⟩
    have e : b = s1.heap.objs.size := by simpa using hb
    subst e
    exact I1.fpOk (Nat.le_refl _) (I1.hok.fresh (Nat.le_refl _))
  · obtain ⟨its, rv, p, hz⟩ := I1.tuple hq
    refine wpAny_pyIter_tuple (show s1.heap.IsTuple a its.toArray from p) ?_
    refine ⟨s1.heap.objs.size, [s1.heap.objs.size], _, _, H1, rfl, I1.kept (t' := s1.toks) fun b o e => Heap.get?_push_of_some _ e, turn_tuple a _, ⟨_, Heap.get?_push_size _ rfl, rfl, rfl⟩, fun b hb => ?_, q⟩
    have e : b = s1.heap.objs.size := by simpa using hb
    subst e
    exact I1.fpOk (Nat.le_refl _) (I1.hok.fresh (Nat.le_refl _))
theorem ci_of (ha : CE X B W a ma) : CI X B W tg a (iOf ma) := by
  refine PI.imp (pi_seqR ha) ?_
  rintro σ H Rw ⟨μ, st, env, n, r, h, hq⟩
  have hx : ∀ x st1, r = .ex x st1 → W x env st1 := fun x st1 e => by subst e; exact hq
  refine first n h hx fun d st1 μ1 H1 v h1 s1 n1 r1 => ?_
  obtain ⟨src, e, rfl⟩ := look_inv h1
  split at e
  · cases e
    cases r1 with
    | tup ha r => exact .inl ⟨_, rfl, .inr ⟨⟨_, SqT.of ha⟩, hq _ _ _ s1 n1.rel (src_tup n1.rel ha r) (fun l n z => nomatch z)⟩⟩
  · cases e
    cases r1 with
    | lst hn hr ha r => exact .inl ⟨_, rfl, .inl ⟨⟨_, SqL.of ha⟩, hq _ _ _ s1 n1.rel (src_list hn hr ha r) (fun l n z => nomatch z)⟩⟩
  · cases e
    cases r1 with
    | rol ha r => exact .inl ⟨_, rfl, .inl ⟨⟨_, ha.sq⟩, hq _ _ _ s1 n1.rel (src_ro ha r) (fun l n z => nomatch z)⟩⟩
  · cases e
    cases r1 with
    | rng ha hn hr hb => exact .inr ⟨_, _, _, rfl, ha, hb, hq _ _ _ s1 n1.rel (src_range _ _) (fun l n z => nomatch z)⟩
  · split at e
    · rename_i l ds e1
      cases e
      cases r1 with
      | loc hl =>
        obtain ⟨vs, h1, h2⟩ := n1.rel.obj _ _ _ hl e1
        exact .inl ⟨_, rfl, .inl ⟨⟨vs, SqL.of h1⟩, hq _ _ _ s1 n1.rel ⟨_, hl, rfl⟩ (fun l n z => by cases z; exact ⟨ds, e1, rfl⟩)⟩⟩
    · cases e
  · cases e
theorem ci_range (hg : Gl X "range") (hm : X.mg "range" = none) (ha : CE X B W a ma) (hs : starEach [a] X.env = [(false, eval a X.env)] := by rfl) : CI X B W tg (.Call (.Name "range" p) [a] [] pos) (iRange ma) := by
  refine PI.imp (pi_range1 hg hm (pa_cons ha pa_nil hs) hs) ?_
  rintro σ H Rw ⟨μ, st, env, n, r, h, hq⟩
  have hx : ∀ x st1, r = .ex x st1 → W x env st1 := fun x st1 e => by subst e; exact hq
  refine first n h hx fun d st1 μ1 H1 v h1 s1 n1 r1 => ?_
  obtain ⟨src, e, rfl⟩ := need_inv h1
  cases d <;> simp only at e <;> try (cases e; done)
  split at e
  · rename_i j hz
    cases e
    cases r1
    simp only [small62_eq, Bool.and_eq_true, decide_eq_true_eq] at hz
    refine ⟨j, rfl, hz.1, hz.2, ?_⟩
    have q := src_range (K := X.K) (mg := ⟨X.nm, B.ρ⟩) (μ := μ1) (H := H1) 0 j
    rw [Int.sub_zero] at q
    exact hq _ _ _ s1 n1.rel q (fun l n z => nomatch z)
  · cases e
theorem ci_range2 (hg : Gl X "range") (hm : X.mg "range" = none) (ha : CE X B W a ma) (hb : CE X B W b mb) (hs : starEach [a, b] X.env = [(false, eval a X.env), (false, eval b X.env)] := by rfl) (hs2 : starEach [b] X.env = [(false, eval b X.env)] := by rfl) :
    CI X B W tg (.Call (.Name "range" p) [a, b] [] pos) (iRange2 ma mb) := by
  refine PI.imp (pi_range2 hg hm (pa_cons ha (pa_cons hb pa_nil hs2) (by rw [hs, hs2])) hs hs2) ?_
  rintro σ H Rw ⟨μ, st, env, n, r, h, hq⟩
  have hx : ∀ x st1, r = .ex x st1 → W x env st1 := fun x st1 e => by subst e; exact hq
  refine first n h hx fun d st1 μ1 H1 v h1 s1 n1 r1 => ?_
  refine first n1 h1 hx fun d2 st2 μ2 H2 u h2 s2 n2 r2 => ?_
  obtain ⟨src, e, rfl⟩ := need_inv h2
  cases d <;> cases d2 <;> simp only at e <;> try (cases e; done)
  split at e
  · rename_i i j hz
    cases e
    cases r1; cases r2
    simp only [small62_eq, Bool.and_eq_true, decide_eq_true_eq] at hz
    exact ⟨i, j, rfl, ⟨hz.1.1, hz.1.2, hz.2.1, hz.2.2⟩, hq _ _ _ (s1.trans n1.rel s2) n2.rel (src_range i j) (fun l n z => nomatch z)⟩
  · cases e
theorem ci_enum {elts : List Expr} {kk : Nat} {tpos : Pos} (hg : Gl X "enumerate") (hm : X.mg "enumerate" = none) (ha : CE X B W a ma) (hs : starEach [a] X.env = [(false, eval a X.env)] := by rfl) : CI X B W (.Tuple elts kk tpos) (.Call (.Name "enumerate" p) [a] [] pos) (iEnum ma) := by
  refine PI.imp (pi_enumA hg hm (pa_cons ha pa_nil hs) hs) ?_
  rintro σ H Rw ⟨μ, st, env, n, r, h, hq⟩
  have hx : ∀ x st1, r = .ex x st1 → W x env st1 := fun x st1 e => by subst e; exact hq
  refine first n h hx fun d st1 μ1 H1 v h1 s1 n1 r1 => ?_
  obtain ⟨src, e, rfl⟩ := need_inv h1
  cases d <;> simp only at e <;> try (cases e; done)
  · cases e
    cases r1 with
    | tup ha r => exact ⟨_, _, rfl, .inr ⟨SqT.of ha, hq _ _ _ s1 n1.rel (src_enumT n1.rel ha r) (fun l n z => nomatch z)⟩⟩
  · cases e
    cases r1 with
    | lst hn hr ha r => exact ⟨_, _, rfl, .inl ⟨SqL.of ha, hq _ _ _ s1 n1.rel (src_enumL hn hr ha r) (fun l n z => nomatch z)⟩⟩
theorem ci_zip {elts : List Expr} {kk : Nat} {tpos : Pos} (hg : Gl X "zip") (hm : X.mg "zip" = none) (ha : CE X B W a ma) (hb : CE X B W b mb)
    (hs : starEach [a, b] X.env = (false, eval a X.env) :: starEach [b] X.env := by rfl) (hs2 : starEach [b] X.env = (false, eval b X.env) :: starEach [] X.env := by rfl) (hpl : (backTo pos (starEach [b] X.env)).any (·.1) = false := by rfl) :
    CI X B W (.Tuple elts kk tpos) (.Call (.Name "zip" p) [a, b] [] pos) (iZip ma mb) := by
  refine PI.imp (RZ.pi_zipA hg hm (pa_cons ha (pa_cons hb pa_nil hs2) hs) hs hpl) ?_
  rintro σ H Rw ⟨μ, st, env, n, r, h, hq⟩
  have hx : ∀ x st1, r = .ex x st1 → W x env st1 := fun x st1 e => by subst e; exact hq
  refine first n h hx fun d st1 μ1 H1 v h1 s1 n1 r1 => ?_
  refine first n1 h1 hx fun d2 st2 μ2 H2 u h2 s2 n2 r2 => ?_
  obtain ⟨src, e, rfl⟩ := need_inv h2
  have r1' := r1.step n1.rel s2
  cases d <;> cases d2 <;> simp only at e <;> try (cases e; done)
  · cases e
    cases r1' with
    | tup ha r =>
      cases r2 with
      | tup ha' r' => exact ⟨_, _, _, _, rfl, .inr ⟨SqT.of ha, SqT.of ha', hq _ _ _ (s1.trans n1.rel s2) n2.rel (src_zipT n2.rel ha r ha' r') (fun l n z => nomatch z)⟩⟩
  · cases e
    cases r1' with
    | lst hn hr ha r =>
      cases r2 with
      | lst hn' hr' ha' r' => exact ⟨_, _, _, _, rfl, .inl ⟨SqL.of ha, SqL.of ha', hq _ _ _ (s1.trans n1.rel s2) n2.rel (src_zipL hn hr ha r hn' hr' ha' r') (fun l n z => nomatch z)⟩⟩
end
end Mi
end
set_option Elab.async false
set_option linter.all false
set_option autoImplicit false
set_option maxRecDepth 100000
set_option maxHeartbeats 2000000
/-! Mi: targets, comprehensions. -/
noncomputable section
namespace Mi
open PySem PySem.Spec PyProof.Rows L2

/-! ### targets -/
def tMG (K : PySem.W.Frag) (g0 : Names) (dom : List Nat) (g : G) : TG := fun v σ H Q => ∃ ρ μ st env d env', Rel K ⟨g0, ρ⟩ μ st H ∧ REnv K ⟨g0, ρ⟩ μ H σ env ∧ RD K ⟨g0, ρ⟩ μ H v d ∧ g d env = some env' ∧
  ∀ σ', REnv K ⟨g0, ρ⟩ μ H σ' env' → σ'.length = σ.length → (∀ j, j ∉ dom → σ'[j]? = σ[j]?) → Q σ' H
abbrev CG (X : Cx) (tg : Expr) (dom : List Nat) (g : G) : Prop := PG X tg (tMG X.K X.nm dom g)
theorem PG.imp {X : Cx} {tg : Expr} {t t' : TG} (h : PG X tg t) (k : ∀ v σ H Q, t' v σ H Q → t v σ H Q) : PG X tg t' := ⟨fun pins s σ H v u Q I r hw => h.run pins s σ H v u Q I r (k v σ H Q hw)⟩
section
variable {X : Cx} {B : Base} {W : Wish} {pos : Pos}
theorem cg_var {i : Nat} {x : Str} (hN : X.N.Nodup) (hi : X.N[i]? = some x) (hx : Loc X.env.scope x) (hf : X.fn x = true ∨ X.env.scope.names.lookup x = some .local := by first | exact .inl rfl | exact .inr rfl | assumption) : CG X (.Name x pos) [i] (gVar i) := by
  refine PG.imp (pg_name hN hi hx hf) ?_
  rintro v σ H Q ⟨ρ, μ, st, env, d, env', R, re, rd, hg, hq⟩
  simp only [gVar] at hg
  split at hg
  · cases hg
    refine hq _ (re.set rd) (by simp) fun j hj => ?_
    rw [List.getElem?_set_ne (fun z => hj (by simp [z]))]
  · cases hg
theorem cg_set2 {i j k : Nat} {x y : Str} {p1 p2 : Pos} (hc : X.calm = true) (hN : X.N.Nodup) (hi : X.N[i]? = some x) (hx : Loc X.env.scope x) (hj : X.N[j]? = some y) (hy : Loc X.env.scope y)
    (hfx : X.fn x = true ∨ X.env.scope.names.lookup x = some .local := by first | exact .inl rfl | exact .inr rfl | assumption) (hfy : X.fn y = true ∨ X.env.scope.names.lookup y = some .local := by first | exact .inl rfl | exact .inr rfl | assumption)
    (hs : (assignEach (.Name x p1 :: [.Name y p2]) X.env).map (·.2) = assign (.Name x p1) X.env :: (assignEach [.Name y p2] X.env).map (·.2) := by rfl) (hs2 : (assignEach (.Name y p2 :: []) X.env).map (·.2) = assign (.Name y p2) X.env :: (assignEach [] X.env).map (·.2) := by rfl)
    (hn : (assignEach [.Name x p1, .Name y p2] X.env).length = 2 := by rfl) (hst : (assignEach [.Name x p1, .Name y p2] X.env).findIdx? (·.1) = none := by rfl) :
    CG X (.Tuple [.Name x p1, .Name y p2] k pos) [i, j] (gSet2 i j) := by
  refine PG.imp (pg_tup hc (pgs_cons (pg_name hN hi hx hfx) (pgs_cons (pg_name hN hj hy hfy) pgs_nil hs2) hs) hn hst) ?_
  rintro v σ H Q ⟨ρ, μ, st, env, d, env', R, re, rd, hg, hq⟩
  unfold gSet2 at hg
  split at hg
  · split at hg
    · cases hg
      cases rd with
      | tup ha r =>
        cases r with
        | cons r1 r =>
          cases r with
          | cons r2 r =>
            cases r
            refine ⟨_, _, rfl, SqT.of ha, rfl, _, _, rfl, _, _, rfl, rfl, ?_⟩
            refine hq _ ((re.set r1).set r2) (by simp) fun l hl => ?_
            rw [List.getElem?_set_ne (fun z => hl (by simp [z])), List.getElem?_set_ne (fun z => hl (by simp [z]))]
    · cases hg
  · cases hg
end
theorem wipe_get (σ : L2.St) : ∀ (vs : List Nat) (j : Nat), (L2.wipe σ vs)[j]? = if j ∈ vs ∧ j < σ.length then some none else σ[j]?
  | [], j => by simp [L2.wipe]
  | v :: vs, j => by
    show ((L2.wipe σ vs).set v none)[j]? = _
    by_cases hj : v = j
    · subst hj
      by_cases hl : v < σ.length
      · rw [List.getElem?_set_self (by rw [wipe_length]; exact hl), if_pos ⟨List.mem_cons_self, hl⟩]
      · rw [List.getElem?_eq_none (by simp [wipe_length]; omega), if_neg (fun z => hl z.2), List.getElem?_eq_none (by omega)]
    · rw [List.getElem?_set_ne hj, wipe_get σ vs j]
      by_cases hm : j ∈ vs ∧ j < σ.length
      · rw [if_pos hm, if_pos ⟨List.mem_cons_of_mem _ hm.1, hm.2⟩]
      · rw [if_neg hm, if_neg (fun z => hm ⟨by rcases List.mem_cons.mp z.1 with q | q; exact absurd q.symm hj; exact q, z.2⟩)]
theorem wipe_same {σ σ' : L2.St} {vs dom : List Nat} (hd : ∀ j ∈ dom, j ∈ vs) (hl : σ'.length = (L2.wipe σ vs).length) (h : ∀ j, j ∉ dom → σ'[j]? = (L2.wipe σ vs)[j]?) : L2.wipe σ' vs = L2.wipe σ vs := by
  have hl' : σ'.length = σ.length := by rw [hl, wipe_length]
  apply List.ext_getElem?
  intro j
  by_cases hj : j < σ.length
  · rw [wipe_get, wipe_get, hl']
    by_cases hm : j ∈ vs ∧ j < σ.length
    · rw [if_pos hm, if_pos hm]
    · rw [if_neg hm, if_neg hm, h j (fun z => hm ⟨hd j z, hj⟩), wipe_get, if_neg hm]
  · rw [List.getElem?_eq_none (by rw [wipe_length]; omega), List.getElem?_eq_none (by rw [wipe_length]; omega)]

/-! ### the list that is being made -/
section
variable {K : PySem.W.Frag} {mg : Ctx} {μ μ' : List Addr} {H H' : Hp} {st : Store} {D₀ : Addr} {acc : List V} {o : HO}
theorem Step.mutate (s : Step μ H μ' H') (h : H D₀ = none) : Step μ H μ' (upd H' D₀ o) :=
  ⟨s.pre, fun a u e hn => by rw [upd_ne (ne_of_none e h)]; exact s.keep a u e hn⟩
mutual
theorem RD.mutate {o0 : HO} (hD : H D₀ = some o0) (nt : ∀ xs, o0 ≠ .tup xs) : ∀ {v : V} {d : D}, RD K (mg.add D₀) μ H v d → RD K (mg.add D₀) μ (upd H D₀ o) v d
  | _, _, .non => .non
  | _, _, .bl b => .bl b
  | _, _, .int i => .int i
  | _, _, .str x => .str x
  | _, _, .tup h r => .tup (by rw [upd_ne (ne_of h hD (fun z => nt _ z.symm))]; exact h) (RDs.mutate hD nt r)
  | _, _, .lst hn hr h r => .lst hn hr (by rw [upd_ne (fun z => hr (by simp [z]))]; exact h) (RDs.mutate hD nt r)
  | _, _, .rol h r => .rol (by
      rcases h with ⟨hn, hr, h⟩ | h
      · refine .inl ⟨hn, hr, ?_⟩
        rcases h with h | ⟨o', h⟩
        · exact .inl (by rw [upd_ne (fun z => hr (by simp [z]))]; exact h)
        · exact .inr ⟨o', by rw [upd_ne (fun z => hr (by simp [z]))]; exact h⟩
      · exact .inr h) (RDs.mutate hD nt r)
  | _, _, .dctA h hn hr r => .dctA (by rw [upd_ne (fun z => hr (by simp [z]))]; exact h) hn hr (RDk.mutate hD nt r)
  | _, _, .dctN h hn hr r => .dctN (by rw [upd_ne (fun z => hr (by simp [z]))]; exact h) hn hr (RDn.mutate hD nt r)
  | _, _, .rng h hn hr b => .rng (by rw [upd_ne (fun z => hr (by simp [z]))]; exact h) hn hr b
  | _, _, .loc h => .loc h
  | _, _, .fn h => .fn h
theorem RDs.mutate {o0 : HO} (hD : H D₀ = some o0) (nt : ∀ xs, o0 ≠ .tup xs) : ∀ {vs : List V} {ds : List D}, RDs K (mg.add D₀) μ H vs ds → RDs K (mg.add D₀) μ (upd H D₀ o) vs ds
  | _, _, .nil => .nil
  | _, _, .cons h r => .cons (RD.mutate hD nt h) (RDs.mutate hD nt r)
theorem RDk.mutate {o0 : HO} (hD : H D₀ = some o0) (nt : ∀ xs, o0 ≠ .tup xs) : ∀ {vs : List (Key × V)} {ds : List (D × D)}, RDk K (mg.add D₀) μ H vs ds → RDk K (mg.add D₀) μ (upd H D₀ o) vs ds
  | _, _, .nil => .nil
  | _, _, .cons h r => .cons (RD.mutate hD nt h) (RDk.mutate hD nt r)
theorem RDn.mutate {o0 : HO} (hD : H D₀ = some o0) (nt : ∀ xs, o0 ≠ .tup xs) : ∀ {vs : List (NestedKey × Addr × V)} {ds : List (D × D)}, RDn K (mg.add D₀) μ H vs ds → RDn K (mg.add D₀) μ (upd H D₀ o) vs ds
  | _, _, .nil => .nil
  | _, _, .cons e k h r => .cons e (RD.mutate hD nt k) (RD.mutate hD nt h) (RDn.mutate hD nt r)
end
theorem Rel.mutateO {o0 o : HO} (R : Rel K (mg.add D₀) μ st H) (hD : H D₀ = some o0) (nt : ∀ xs, o0 ≠ .tup xs) (nt' : ∀ xs, o ≠ .tup xs) : Rel K (mg.add D₀) μ st (upd H D₀ o) := by
  have hm := (R.res D₀ List.mem_cons_self).1
  refine ⟨R.len, R.nd, R.rn, fun a ha => ⟨(R.res a ha).1, ?_⟩, fun l a u h1 h2 => ?_⟩
  · by_cases e : a = D₀
    · subst e; exact ⟨o, upd_same, nt'⟩
    · rw [upd_ne e]; exact (R.res a ha).2
  · have q := R.obj l a u h1 h2
    have ne : a ≠ D₀ := fun z => hm (by rw [← z]; exact List.mem_of_getElem? h1)
    cases u with
    | lst ds => obtain ⟨vs, q1, q2⟩ := q; exact ⟨vs, by rw [upd_ne ne]; exact q1, q2.mutate hD nt⟩
    | dct t kds => cases t <;> (obtain ⟨vs, q1, q2⟩ := q; exact ⟨vs, by rw [upd_ne ne]; exact q1, q2.mutate hD nt⟩)
    | ins c fs => obtain ⟨C, dx, vs, q0, q1, q2⟩ := q; exact ⟨C, dx, vs, q0, by rw [upd_ne ne]; exact q1, q2.mutate hD nt⟩
theorem Rel.mutate {zs : List V} (R : Rel K (mg.add D₀) μ st H) (hD : H D₀ = some (.lst acc)) : Rel K (mg.add D₀) μ st (upd H D₀ (.lst zs)) := R.mutateO hD (fun _ z => nomatch z) (fun _ z => nomatch z)
end
theorem bndN_inv {α β : Type} {m : M α} {f : α → M β} {st : Store} {r : R β} (h : bndN m f st = some r) : ∃ a st1, m st = some (.ok a st1) ∧ f a st1 = some r := by
  unfold bndN at h
  split at h
  · rename_i a st1 e; exact ⟨a, st1, e, h⟩
  · cases h
/-- nothing is raised -/
def WF : Wish := fun _ _ _ => False
def tMx (K : PySem.W.Frag) (g0 : Names) (m : E) : TE := fun σ H Q => ∃ B : Base, tM K ⟨g0, B.ρ⟩ B WF m σ H Q
def tMTx (K : PySem.W.Frag) (g0 : Names) (m : T) : TT := fun σ H Q => ∃ B : Base, tMT K ⟨g0, B.ρ⟩ B WF m σ H Q
/-- one turn's outcome: the item's place taken, the test asked, the element made -/
inductive Turned (g : G) (t : T) (e : E) (σ : Env) (d : D) (st : Store) : Option D → Store → Prop where
  | no {σ1 : Env} {st1 : Store} : g d σ = some σ1 → t σ1 st = some (.ok false st1) → Turned g t e σ d st none st1
  | yes {σ1 : Env} {st1 st2 : Store} {x : D} : g d σ = some σ1 → t σ1 st = some (.ok true st1) → e σ1 st1 = some (.ok x st2) → Turned g t e σ d st (some x) st2
theorem compFix_cons {g : G} {t : T} {e : E} {σ : Env} {d : D} {ds : List D} {st : Store} {r : R (List D)} (h : compFix g t e σ (d :: ds) st = some r) (hr : ∀ x s, r ≠ .ex x s) :
    ∃ o st1 xs st', Turned g t e σ d st o st1 ∧ compFix g t e σ ds st1 = some (.ok xs st') ∧ r = .ok (o.toList ++ xs) st' := by
  unfold compFix at h
  cases hg : g d σ with
  | none => rw [hg] at h; cases h
  | some σ1 =>
    rw [hg] at h
    obtain ⟨k, st1, ht, h⟩ := bndN_inv h
    cases k with
    | true =>
      rw [if_pos rfl] at h
      obtain ⟨x, st2, he, h⟩ := bndN_inv h
      obtain ⟨xs, st3, hc, h⟩ := bndN_inv h
      cases ret_inv h
      exact ⟨some x, st2, xs, st3, .yes hg ht he, hc, rfl⟩
    | false =>
      rw [if_neg Bool.false_ne_true] at h
      cases r with
      | ok xs st' => exact ⟨none, st1, xs, st', .no hg ht, h, rfl⟩
      | ex x s => exact absurd rfl (hr x s)
theorem compFix_noex {g : G} {t : T} {e : E} {σ : Env} : ∀ {ds : List D} {st : Store} {r : R (List D)}, compFix g t e σ ds st = some r → ∀ x s, r ≠ .ex x s
  | [], st, r, h, x, s, z => by cases ret_inv h; cases z
  | d :: ds, st, r, h, x, s, z => by
    unfold compFix at h
    cases hg : g d σ with
    | none => rw [hg] at h; cases h
    | some σ1 =>
      rw [hg] at h
      obtain ⟨k, st1, ht, h⟩ := bndN_inv h
      cases k with
      | true =>
        rw [if_pos rfl] at h
        obtain ⟨y, st2, he, h⟩ := bndN_inv h
        obtain ⟨xs, st3, hc, h⟩ := bndN_inv h
        cases ret_inv h
        cases z
      | false =>
        rw [if_neg Bool.false_ne_true] at h
        exact compFix_noex h x s z
theorem compLive_cons {g : G} {t : T} {e : E} {σ : Env} {l n i : Nat} {st : Store} {r : R (List D)} (h : compLive g t e σ l (n + 1) i st = some r) (hr : ∀ x s, r ≠ .ex x s) :
    ∃ ds d o st1 xs st', st[l]? = some (.lst ds) ∧ ds[i]? = some d ∧ Turned g t e σ d st o st1 ∧ compLive g t e σ l n (i + 1) st1 = some (.ok xs st') ∧ r = .ok (o.toList ++ xs) st' := by
  unfold compLive at h
  split at h
  · rename_i ds hl
    split at h
    · cases h
    · rename_i d hd
      split at h
      · cases h
      · rename_i σ1 hg
        obtain ⟨k, st1, ht, h⟩ := bndN_inv h
        cases k with
        | true =>
          rw [if_pos rfl] at h
          obtain ⟨x, st2, he, h⟩ := bndN_inv h
          obtain ⟨xs, st3, hc, h⟩ := bndN_inv h
          cases ret_inv h
          exact ⟨ds, d, some x, st2, xs, st3, hl, hd, .yes hg ht he, hc, rfl⟩
        | false =>
          rw [if_neg Bool.false_ne_true] at h
          cases r with
          | ok xs st' => exact ⟨ds, d, none, st1, xs, st', hl, hd, .no hg ht, h, rfl⟩
          | ex x s => exact absurd rfl (hr x s)
  · cases h
theorem compLive_noex {g : G} {t : T} {e : E} {σ : Env} {l : Nat} : ∀ {n i : Nat} {st : Store} {r : R (List D)}, compLive g t e σ l n i st = some r → ∀ x s, r ≠ .ex x s
  | 0, i, st, r, h, x, s, z => by
    unfold compLive at h
    split at h
    · split at h
      · cases h; cases z
      · cases h
    · cases h
  | n + 1, i, st, r, h, x, s, z => by
    unfold compLive at h
    split at h
    · split at h
      · cases h
      · split at h
        · cases h
        · obtain ⟨k, st1, ht, h⟩ := bndN_inv h
          cases k with
          | true =>
            rw [if_pos rfl] at h
            obtain ⟨y, st2, he, h⟩ := bndN_inv h
            obtain ⟨xs, st3, hc, h⟩ := bndN_inv h
            cases ret_inv h
            cases z
          | false =>
            rw [if_neg Bool.false_ne_true] at h
            exact compLive_noex h x s z
    · cases h

/-! ### one turn -/
section
variable {K : PySem.W.Frag} {g0 : Names} {ρ : List Addr} {g : G} {t : T} {e : E} {vs dom : List Nat}
/-- the state between the turns -/
structure Mid (K : PySem.W.Frag) (g0 : Names) (ρ : List Addr) (D₀ : Addr) (μ1 : List Addr) (H1 : Hp) (σ : L2.St) (env : Env) (μ2 : List Addr) (st2 : Store) (H2 : Hp) (acc : List V) (accD : List D) : Prop where
  new : H1 D₀ = none
  step : Step μ1 H1 μ2 H2
  rel : Rel K ⟨g0, D₀ :: ρ⟩ μ2 st2 H2
  at_ : H2 D₀ = some (.lst acc)
  rds : RDs K ⟨g0, D₀ :: ρ⟩ μ2 H2 acc accD
  env : REnv K ⟨g0, D₀ :: ρ⟩ μ2 H2 σ env
theorem REnv.mutate {μ : List Addr} {H : Hp} {σ : L2.St} {env : Env} {D₀ : Addr} {acc : List V} {o : HO} {mg : Ctx} (e : REnv K (mg.add D₀) μ H σ env) (hD : H D₀ = some (.lst acc)) : REnv K (mg.add D₀) μ (upd H D₀ o) σ env :=
  ⟨e.len, fun i d h => let ⟨v, h1, h2⟩ := e.val i d h; ⟨v, h1, h2.mutate hD (fun _ z => nomatch z)⟩⟩
theorem turn_ok {D₀ : Addr} {μ1 : List Addr} {H1 : Hp} {σ : L2.St} {env : Env} {μ2 : List Addr} {st2 st3 : Store} {H2 H3 : Hp} {acc : List V} {accD : List D} {d : D} {o : Option D} {x : V} {it : Item} {Nx : Hp → Prop}
    (M : Mid K g0 ρ D₀ μ1 H1 (L2.wipe σ vs) (Mi.wipe env vs) μ2 st2 H2 acc accD) (hd : ∀ j ∈ dom, j ∈ vs) (hi : ItR K ⟨g0, D₀ :: ρ⟩ μ2 H2 it d) (hy : Hands H2 it x H3) (T : Turned g t e (Mi.wipe env vs) d st2 o st3) (hz : accD.length + o.toList.length ≤ 16777216)
    (k : ∀ μ4 H4 acc', Mid K g0 ρ D₀ μ1 H1 (L2.wipe σ vs) (Mi.wipe env vs) μ4 st3 H4 acc' (accD ++ o.toList) → Nx H4) :
    tMG K g0 dom g x (L2.wipe σ vs) H3 fun σ2 H4 => L2.wipe σ2 vs = L2.wipe σ vs ∧ tMTx K g0 t σ2 H4 fun b H5 =>
      if b = true then tMx K g0 e σ2 H5 fun y H6 => ∃ acc, H6 D₀ = some (.lst acc) ∧ acc.length < sizeLine ∧ Nx (upd H6 D₀ (.lst (acc ++ [y]))) else Nx H5 := by
  obtain ⟨s3, R3, rd⟩ := hands_rd M.rel hi hy
  have hD3 : H3 D₀ = some (.lst acc) := s3.keep _ _ M.at_ (M.rel.res D₀ List.mem_cons_self).1
  have e3 := M.env.step M.rel s3
  have done : ∀ {μ5 : List Addr} {st5 : Store} {H5 : Hp}, Step μ2 H3 μ5 H5 → Rel K ⟨g0, D₀ :: ρ⟩ μ5 st5 H5 → H5 D₀ = some (.lst acc) ∧ D₀ ∉ μ5 := fun s R =>
    ⟨s.keep _ _ hD3 (R3.res D₀ List.mem_cons_self).1, (R.res D₀ List.mem_cons_self).1⟩
  cases T with
  | @no σ1 _ hg ht =>
    refine ⟨D₀ :: ρ, μ2, st2, _, d, σ1, R3, e3, rd, hg, fun σ2 e4 hl hj => ⟨wipe_same hd hl hj, ?_⟩⟩
    refine ⟨⟨μ2, D₀ :: ρ, H3⟩, μ2, st2, σ1, ⟨Step.refl _ _, R3, e4⟩, _, ht, fun μ5 H5 s5 R5 => ?_⟩
    dsimp only
    rw [if_neg Bool.false_ne_true]
    obtain ⟨h5, _⟩ := done s5 R5
    refine k μ5 H5 acc ⟨M.new, (M.step.trans M.rel s3).trans R3 s5, R5, h5, ?_, (e3.step R3 s5)⟩
    simp only [Option.toList, List.append_nil]
    exact (M.rds.step M.rel s3).step R3 s5
  | @yes σ1 st4 _ y hg ht he =>
    refine ⟨D₀ :: ρ, μ2, st2, _, d, σ1, R3, e3, rd, hg, fun σ2 e4 hl hj => ⟨wipe_same hd hl hj, ?_⟩⟩
    refine ⟨⟨μ2, D₀ :: ρ, H3⟩, μ2, st2, σ1, ⟨Step.refl _ _, R3, e4⟩, _, ht, fun μ5 H5 s5 R5 => ?_⟩
    dsimp only
    rw [if_pos rfl]
    refine ⟨⟨μ5, D₀ :: ρ, H5⟩, μ5, st4, σ1, ⟨Step.refl _ _, R5, e4.step R3 s5⟩, _, he, fun μ6 H6 v s6 R6 rv => ?_⟩
    have s56 : Step μ2 H3 μ6 H6 := s5.trans R5 s6
    obtain ⟨h6, _⟩ := done s56 R6
    have hlen : acc.length = accD.length := M.rds.length
    refine ⟨acc, h6, by rw [sizeLine_eq]; simp at hz; omega, ?_⟩
    have rds6 := (M.rds.step M.rel s3).step R3 s56
    refine k μ6 _ (acc ++ [v]) ⟨M.new, ((M.step.trans M.rel s3).trans R3 s56).mutate M.new, Rel.mutate (mg := ⟨g0, ρ⟩) R6 h6, upd_same, ?_, REnv.mutate (mg := ⟨g0, ρ⟩) (e3.step R3 s56) h6⟩
    exact RDs.mutate (mg := ⟨g0, ρ⟩) h6 (fun _ z => nomatch z) (rds6.app (.cons rv .nil))
end

/-! ### the rule -/
theorem PTs.imp {X : Cx} {ifs : List Expr} {t t' : TT} (h : PTs X ifs t) (k : ∀ σ H Q, t' σ H Q → t σ H Q) : PTs X ifs t' := ⟨fun pins s σ H Q I hw => h.run pins s σ H Q I (k σ H Q hw)⟩
section
variable {X : Cx} {B : Base} {W : Wish} {pos : Pos}
abbrev CTs (X : Cx) (ifs : List Expr) (t : T) : Prop := PTs X ifs (tMTx X.K X.nm t)
theorem cts_nil : CTs X [] Mi.tYes := by
  refine PTs.imp pts_nil ?_
  rintro σ H Q ⟨B, μ, st, env, n, r, h, hq⟩
  cases ret_inv h
  exact hq _ _ (Step.refl _ _) n.rel
theorem cts_one {c : Expr} {t : T} (h : ∀ B, CT X B WF c t) : CTs X [c] t := by
  refine PTs.imp (pts_one (t := tMTx X.K X.nm t) ⟨fun pins s σ H Q I ⟨B, hw⟩ => (h B).run pins s σ H Q I hw⟩) fun σ H Q h => h
theorem cx_of {e : Expr} {m : E} (h : ∀ B, CE X B WF e m) : PE X e (tMx X.K X.nm m) := ⟨fun pins s σ H Q I ⟨B, hw⟩ => (h B).run pins s σ H Q I hw⟩
theorem comp_read {s : I} {g : G} {t : T} {e : E} {vs dom : List Nat} (hd : ∀ j ∈ dom, j ∈ vs) : ∀ σ H Q, tML X.K ⟨X.nm, B.ρ⟩ B W (lComp s g t e vs) σ H Q → tLc (tMI X.K ⟨X.nm, B.ρ⟩ B W s) (tMG X.K X.nm dom g) (tMTx X.K X.nm t) (tMx X.K X.nm e) vs σ H Q := by
  rintro σ H Q ⟨μ, st, env, n, r, h, hq⟩
  rcases bnd_inv h with ⟨src, st1, e1, h1⟩ | ⟨x, st1, e1, rfl⟩
  case inr => exact ⟨μ, st, env, n, _, e1, hq⟩
  refine ⟨μ, st, env, n, _, e1, fun μ1 H1 J s1 R1 SR live D₀ hD => ?_⟩
  have n1 := n.next s1 R1
  have hD0 : H D₀ = none := s1.fresh hD fun z => by
    obtain ⟨⟨ν, rfl, _⟩, _⟩ := s1
    exact R1.new hD (List.mem_append_left _ z)
  have R1' : Rel X.K ⟨X.nm, D₀ :: B.ρ⟩ μ1 st1 (upd H1 D₀ (.lst [])) := R1.hold hD
  have env1 : REnv X.K ⟨X.nm, D₀ :: B.ρ⟩ μ1 (upd H1 D₀ (.lst [])) (L2.wipe σ vs) (Mi.wipe env vs) := by
    have q := n1.env.wipe vs
    exact ⟨q.len, fun i d h => let ⟨v, h1, h2⟩ := q.val i d h; ⟨v, h1, RD.step R1 (Step.laid hD) (h2.keep R1 hD (.inr trivial))⟩⟩
  have M0 : Mid X.K X.nm B.ρ D₀ μ1 H1 (L2.wipe σ vs) (Mi.wipe env vs) μ1 st1 (upd H1 D₀ (.lst [])) [] [] := ⟨hD, Step.laid hD, R1', upd_same, .nil, env1⟩
  rcases bnd_inv h1 with ⟨xs, st', e2, h2⟩ | ⟨x, st', e2, rfl⟩
  case inr =>
    cases src with
    | fix ds => exact absurd rfl (compFix_noex e2 x st')
    | live l n => exact absurd rfl (compLive_noex e2 x st')
  split at h2
  case isFalse => cases h2
  rename_i hz
  cases ret_inv h2
  have hz' : xs.length ≤ 16777216 := of_decide_eq_true ((okLen_eq _).symm.trans hz)
  have fin : ∀ {μ2 H2 acc}, Mid X.K X.nm B.ρ D₀ μ1 H1 (L2.wipe σ vs) (Mi.wipe env vs) μ2 st' H2 acc xs → Q (.ref D₀) H2 := fun {μ2 H2 acc} M =>
    hq μ2 H2 D₀ acc (s1.trans R1 M.step) M.rel hD0 M.at_ M.rds
  cases src with
  | fix ds =>
    obtain ⟨its, i1, i2⟩ := SR
    have i1' := i1.hold R1 hD
    have il := i1.length
    refine ⟨fun i m H2 => ∃ μ2 st2 acc accD rest, m = ds.length - i ∧ i ≤ ds.length ∧ Mid X.K X.nm B.ρ D₀ μ1 H1 (L2.wipe σ vs) (Mi.wipe env vs) μ2 st2 H2 acc accD ∧ compFix g t e (Mi.wipe env vs) (ds.drop i) st2 = some (.ok rest st') ∧ accD ++ rest = xs,
      ⟨ds.length, μ1, st1, [], [], xs, by omega, Nat.zero_le _, M0, e2, rfl⟩, ?_⟩
    rintro i m H2 ⟨μ2, st2, acc, accD, rest, rfl, hi, M, hc, hx⟩
    have kp : Kp μ1 B.ρ H1 H2 := M.step.kp
    by_cases hlt : i < ds.length
    · have hdi : ds[i]? = some ds[i] := List.getElem?_eq_getElem hlt
      obtain ⟨it, hit, ir⟩ := i1'.get hdi
      obtain ⟨go, yl⟩ := (i2 H2 kp i).1 it hit
      have hdr : ds.drop i = ds[i] :: ds.drop (i + 1) := List.drop_eq_getElem_cons hlt
      rw [hdr] at hc
      obtain ⟨o, st3, ys, st4, T, hc2, hr⟩ := compFix_cons hc (fun x s z => nomatch z)
      cases hr
      refine .inr ⟨go, fun H4 => ∃ μ4 acc', Mid X.K X.nm B.ρ D₀ μ1 H1 (L2.wipe σ vs) (Mi.wipe env vs) μ4 st3 H4 acc' (accD ++ o.toList), fun H4 ⟨μ4, acc', M4⟩ => ⟨ds.length - (i + 1), by omega, μ4, st3, acc', _, ys, rfl, hlt, M4, hc2, by rw [List.append_assoc]; exact hx⟩, fun x H3 y => ?_⟩
      refine turn_ok (it := it) M hd ?_ (yl x H3 y) T ?_ fun μ4 H4 acc' M4 => ⟨μ4, acc', M4⟩
      · exact ItsR.step' R1 M.step i1' |>.get hdi |> fun ⟨it', h1, h2⟩ => by rw [hit] at h1; cases h1; exact h2
      · have := congrArg List.length hx
        simp at this
        omega
    · have e : i = ds.length := by omega
      subst e
      rw [List.drop_length] at hc
      cases ret_inv hc
      rw [List.append_nil] at hx
      subst hx
      exact .inl ⟨(i2 H2 kp _).2 il, fin M⟩
  | live l nn =>
    obtain ⟨a, ha, rfl⟩ := SR
    refine ⟨fun i m H2 => ∃ μ2 st2 acc accD rest, Mid X.K X.nm B.ρ D₀ μ1 H1 (L2.wipe σ vs) (Mi.wipe env vs) μ2 st2 H2 acc accD ∧ compLive g t e (Mi.wipe env vs) l m i st2 = some (.ok rest st') ∧ accD ++ rest = xs,
      ⟨nn, μ1, st1, [], [], xs, M0, e2, rfl⟩, ?_⟩
    rintro i m H2 ⟨μ2, st2, acc, accD, rest, M, hc, hx⟩
    have ha2 : μ2[l]? = some a := M.step.idx ha
    cases m with
    | zero =>
      unfold compLive at hc
      split at hc
      · rename_i ds hl
        split at hc
        · rename_i hle
          cases hc
          rw [List.append_nil] at hx
          subst hx
          obtain ⟨ws, w1, w2⟩ := M.rel.obj l a _ ha2 hl
          exact .inl ⟨⟨ws, SqL.of w1, by rw [w2.length]; exact hle⟩, fin M⟩
        · cases hc
      · cases hc
    | succ m =>
      obtain ⟨ds, d, o, st3, ys, st4, hl, hdi, T, hc2, hr⟩ := compLive_cons hc (fun x s z => nomatch z)
      cases hr
      obtain ⟨ws, w1, w2⟩ := M.rel.obj l a _ ha2 hl
      obtain ⟨v, hv, rv⟩ := w2.get hdi
      refine .inr ⟨⟨ws, v, SqL.of w1, hv⟩, fun H4 => ∃ μ4 acc', Mid X.K X.nm B.ρ D₀ μ1 H1 (L2.wipe σ vs) (Mi.wipe env vs) μ4 st3 H4 acc' (accD ++ o.toList), fun H4 ⟨μ4, acc', M4⟩ => ⟨m, Nat.lt_succ_self _, μ4, st3, acc', _, ys, M4, hc2, by rw [List.append_assoc]; exact hx⟩, fun x H3 y => ?_⟩
      have hxv : x = v := by
        have := y.2 ws (SqL.of w1)
        rw [hv] at this
        exact (Option.some.inj this).symm
      refine turn_ok (it := .one v) M hd rv ⟨hxv, y.1⟩ T ?_ fun μ4 H4 acc' M4 => ⟨μ4, acc', M4⟩
      have := congrArg List.length hx
      simp at this
      omega
theorem cl_comp {elt tg iter : Expr} {ifs : List Expr} {scope : Scope} {own : List (Str × Nat)} {s : I} {g : G} {t : T} {e : E} {dom : List Nat} (hc : X.calm = true) (hN : X.N.Nodup) (hi : CI X B W tg iter s) (ok : BlkOk X.N X.env.scope scope own)
    (hg : ∀ (s : Shared) (H : Hp) (C : Addr) (cl : List (Str × Addr)) (fp : List Addr), CG (X.blk s H scope (compEnvC scope cl C X.env) fp) tg dom g) (ht : ∀ (s : Shared) (H : Hp) (C : Addr) (cl : List (Str × Addr)) (fp : List Addr), CTs (X.blk s H scope (compEnvC scope cl C X.env) fp) ifs t)
    (he : ∀ (s : Shared) (H : Hp) (C : Addr) (cl : List (Str × Addr)) (fp : List Addr) (B' : Base), CE (X.blk s H scope (compEnvC scope cl C X.env) fp) B' WF elt e) (hd : (dom.all fun j => (own.map (·.2)).contains j) = true) (hs : ∀ x, foldedSetIterable iter X.env x = pure x := by intro _; rfl) :
    CL X B W (.ListComp elt [⟨tg, iter, ifs, 0⟩] scope pos) (lComp s g t e (own.map (·.2))) :=
  PE.imp (pe_lc hc hN hi ok hg ht (fun s H C cl fp => cx_of (he s H C cl fp)) hs) (comp_read fun j hj => by
    have := List.all_eq_true.mp hd j hj
    simpa using this)
end
end Mi
end
set_option Elab.async false
set_option linter.all false
set_option autoImplicit false
set_option maxRecDepth 100000
set_option maxHeartbeats 2000000
/-! Mi: statements, functions. -/
noncomputable section
namespace Mi
open PySem PySem.Spec PyProof.Rows L2
/-- an exception of the text's, as it lies -/
def ExR (K : PySem.W.Frag) (mg : Ctx) (μ : List Addr) (H : Hp) (x : Exn) (cls : Value) (d : Option Addr) : Prop :=
  ∃ C, mg.g.f x.name = some (.ref C) ∧ cls = .ref C ∧ (match x.arg with
    | none => True
    | some u => ∃ a f v, d = some a ∧ H a = some (.xd [(f, v)]) ∧ a ∉ μ ∧ RD K mg μ H v u)
def liftW (K : PySem.W.Frag) (mg : Ctx) (B : Base) (W : Wish) : WX := fun cls d σ H => ∃ μ st env x, Now K mg B μ st H σ env ∧ ExR K mg μ H x cls d ∧ W x env st
section
variable (K : PySem.W.Frag) (mg : Ctx) (B : Base) (W : Wish)
def ResS (μ : List Addr) (H : Hp) (r : RS) (D : Ends) : Prop := match r with
  | .nx env st' => ∀ μ' H' σ', Step μ H μ' H' → Rel K mg μ' st' H' → REnv K mg μ' H' σ' env → D.nx σ' H'
  | .rt d st' => ∀ μ' H' v, Step μ H μ' H' → Rel K mg μ' st' H' → RD K mg μ' H' v d → D.rt v H'
  | .bk env st' => ∀ μ' H' σ', Step μ H μ' H' → Rel K mg μ' st' H' → REnv K mg μ' H' σ' env → D.bk σ' H'
  | .ct env st' => ∀ μ' H' σ', Step μ H μ' H' → Rel K mg μ' st' H' → REnv K mg μ' H' σ' env → D.ct σ' H'
  | .ex x env st' => W x env st'
def tMS (m : S) : TS := fun D σ H => ∃ μ st env, Now K mg B μ st H σ env ∧ ∃ r, m env st = some r ∧ ResS K mg W μ H r D
end
abbrev CS (X : Cx) (B : Base) (W : Wish) (e : Stmt) (m : S) : Prop := PS X e (tMS X.K ⟨X.nm, B.ρ⟩ B W m)
abbrev CSs (X : Cx) (B : Base) (W : Wish) (e : List Stmt) (m : S) : Prop := PSs X e (tMS X.K ⟨X.nm, B.ρ⟩ B W m)
theorem PSs.imp {X : Cx} {e : List Stmt} {t t' : TS} (h : PSs X e t) (k : ∀ D σ H, t' D σ H → t D σ H) : PSs X e t' := ⟨fun pins s σ H D I hw => h.run pins s σ H D I (k D σ H hw)⟩
section
variable {K : PySem.W.Frag} {mg : Ctx} {B : Base} {W : Wish} {μ : List Addr} {st : Store} {H : Hp} {σ : L2.St} {env : Env}
theorem sBnd_inv {α : Type} {m : M α} {f : α → Store → Option RS} {r : RS} (h : sBnd m env f st = some r) : (∃ a st1, m st = some (.ok a st1) ∧ f a st1 = some r) ∨ ∃ x st1, m st = some (.ex x st1) ∧ r = .ex x env st1 := by
  unfold sBnd at h
  split at h
  · rename_i a st1 e; exact .inl ⟨a, st1, e, h⟩
  · rename_i x st1 e; cases h; exact .inr ⟨x, st1, e, rfl⟩
  · cases h
theorem resS_ex {r : RS} {D : Ends} (h : ResS K mg W μ H r D) : ∀ x st1, r = .ex x env st1 → W x env st1 := fun x st1 e => by subst e; exact h
theorem sfirst {m : E} {k : D → Store → Option RS} {r : RS} {D : Ends} {Q : VK} (n : Now K mg B μ st H σ env) (h : sBnd (m env) env k st = some r) (hq : ResS K mg W μ H r D)
    (ok : ∀ d st1 μ1 H1 v, k d st1 = some r → Step μ H μ1 H1 → Now K mg B μ1 st1 H1 σ env → RD K mg μ1 H1 v d → Q v H1) : tM K mg B W m σ H Q := by
  rcases sBnd_inv h with ⟨d, st1, e, h⟩ | ⟨x, st1, e, rfl⟩
  · exact ⟨μ, st, env, n, _, e, fun μ1 H1 v s R r => ok d st1 μ1 H1 v h s (n.next s R) r⟩
  · exact ⟨μ, st, env, n, _, e, hq⟩
theorem sfirstT {m : T} {k : Bool → Store → Option RS} {r : RS} {D : Ends} {Q : Bool → Hp → Prop} (n : Now K mg B μ st H σ env) (h : sBnd (m env) env k st = some r) (hq : ResS K mg W μ H r D)
    (ok : ∀ d st1 μ1 H1, k d st1 = some r → Step μ H μ1 H1 → Now K mg B μ1 st1 H1 σ env → Q d H1) : tMT K mg B W m σ H Q := by
  rcases sBnd_inv h with ⟨d, st1, e, h⟩ | ⟨x, st1, e, rfl⟩
  · exact ⟨μ, st, env, n, _, e, fun μ1 H1 s R => ok d st1 μ1 H1 h s (n.next s R)⟩
  · exact ⟨μ, st, env, n, _, e, hq⟩
/-- behind a step -/
theorem ResS.later {μ1 : List Addr} {H1 : Hp} {st1 : Store} {r : RS} {D : Ends} (R : Rel K mg μ1 st1 H1) (s : Step μ H μ1 H1) (h : ResS K mg W μ H r D) : ResS K mg W μ1 H1 r D := by
  cases r with
  | nx env st' => exact fun μ' H' σ' t R' e => h μ' H' σ' (s.trans R t) R' e
  | rt d st' => exact fun μ' H' σ' t R' e => h μ' H' σ' (s.trans R t) R' e
  | bk env st' => exact fun μ' H' σ' t R' e => h μ' H' σ' (s.trans R t) R' e
  | ct env st' => exact fun μ' H' σ' t R' e => h μ' H' σ' (s.trans R t) R' e
  | ex x env st' => exact h
end
section
variable {X : Cx} {B : Base} {W : Wish} {a b c e o : Expr} {ma mb mo mi m : E} {t : T} {st : Stmt} {sts body : List Stmt} {ms ms2 : S} {pos : Pos}
theorem css_nil : CSs X B W [] sSkip := by
  refine PSs.imp pss_nil ?_
  rintro D σ H ⟨μ, st, env, n, r, h, hq⟩
  cases h
  exact hq _ _ _ (Step.refl _ _) n.rel n.env
theorem css_cons (h1 : CS X B W st ms) (h2 : CSs X B W sts ms2) : CSs X B W (st :: sts) (sSeq ms ms2) := by
  refine PSs.imp (pss_cons h1 h2) ?_
  rintro D σ H ⟨μ, st, env, n, r, h, hq⟩
  unfold sSeq at h
  split at h
  · rename_i env1 st1 e1
    refine ⟨μ, st, env, n, _, e1, fun μ1 H1 σ1 s R re => ?_⟩
    exact ⟨μ1, st1, env1, ⟨n.step.trans n.rel s, R, re⟩, r, h, hq.later R s⟩
  · rename_i hne
    refine ⟨μ, st, env, n, r, h, ?_⟩
    cases r with
    | nx env1 st1 => exact absurd h (hne env1 st1)
    | rt d st' => exact hq
    | bk env st' => exact hq
    | ct env st' => exact hq
    | ex x env st' => exact hq
theorem css_one (h1 : CS X B W st ms) : CSs X B W [st] ms := pss_one h1
theorem cs_pass : CS X B W (.Pass pos) sSkip := by
  refine PS.imp ps_pass ?_
  rintro D σ H ⟨μ, st, env, n, r, h, hq⟩
  cases h
  exact hq _ _ _ (Step.refl _ _) n.rel n.env
theorem cs_break : CS X B W (.Break pos) sBreak := by
  refine PS.imp ps_break ?_
  rintro D σ H ⟨μ, st, env, n, r, h, hq⟩
  cases h
  exact hq _ _ _ (Step.refl _ _) n.rel n.env
theorem cs_cont : CS X B W (.Continue pos) sCont := by
  refine PS.imp ps_continue ?_
  rintro D σ H ⟨μ, st, env, n, r, h, hq⟩
  cases h
  exact hq _ _ _ (Step.refl _ _) n.rel n.env
theorem cs_never : CS X B W st sNever := by
  refine PS.imp ps_never ?_
  rintro D σ H ⟨μ, st, env, n, r, h, hq⟩
  cases h
theorem css_never : CSs X B W sts sNever := by
  refine PSs.imp pss_never ?_
  rintro D σ H ⟨μ, st, env, n, r, h, hq⟩
  cases h
theorem cs_expr (he : CE X B W e m) (hs : swapsWith e none pos.line X.env = pure false := by rfl) : CS X B W (.Expr e pos) (sExpr m) := by
  refine PS.imp (ps_expr he hs) ?_
  rintro D σ H ⟨μ, st, env, n, r, h, hq⟩
  refine sfirst n h hq fun d st1 μ1 H1 v h1 s1 n1 r1 => ?_
  cases h1
  exact hq _ _ _ s1 n1.rel n1.env
theorem cs_ret (he : CE X B W e m) : CS X B W (.Return (some e) pos) (sRet m) := by
  refine PS.imp (ps_ret he) ?_
  rintro D σ H ⟨μ, st, env, n, r, h, hq⟩
  refine sfirst n h hq fun d st1 μ1 H1 v h1 s1 n1 r1 => ?_
  cases h1
  exact hq _ _ _ s1 n1.rel r1
theorem cs_if {c : Expr} {A E : List Stmt} (hc : CT X B W c t) (ha : CSs X B W A ms) (hb : CSs X B W E ms2) : CS X B W (.If c A E pos) (sIf t ms ms2) := by
  refine PS.imp (ps_if hc ha hb) ?_
  rintro D σ H ⟨μ, st, env, n, r, h, hq⟩
  refine sfirstT n h hq fun k st1 μ1 H1 h1 s1 n1 => ?_
  cases k with
  | true =>
    rw [if_pos rfl] at h1 ⊢
    exact ⟨μ1, st1, env, n1, r, h1, hq.later n1.rel s1⟩
  | false =>
    rw [if_neg Bool.false_ne_true] at h1 ⊢
    exact ⟨μ1, st1, env, n1, r, h1, hq.later n1.rel s1⟩
theorem cs_set {i : Nat} {x : Str} {pos' : Pos} (hN : X.N.Nodup) (hi : X.N[i]? = some x) (hx : Loc X.env.scope x) (he : CE X B W e m) (hs : swapsWith e (some (.Name x pos')) pos.line X.env = pure false := by rfl) (hf : X.fn x = true ∨ X.env.scope.names.lookup x = some .local := by first | exact .inl rfl | exact .inr rfl | assumption) :
    CS X B W (.Assign [.Name x pos'] e pos) (sSet i m) := by
  refine PS.imp (ps_set hN hi hx he hs hf) ?_
  rintro D σ H ⟨μ, st, env, n, r, h, hq⟩
  refine sfirst n h hq fun d st1 μ1 H1 v h1 s1 n1 r1 => ?_
  split at h1
  · cases h1
    exact hq _ _ _ s1 n1.rel (n1.env.set r1)
  · cases h1
/-- a, b = e -/
theorem cs_asg {tg : Expr} {dom : List Nat} {g : G} (he : CE X B W e m) (hg : CG X tg dom g) (hs : swapsWithSole [tg] e pos.line X.env = pure false := by rfl) (hw : swappedStores [tg] e X.env = pure none := by rfl)
    (h1 : (assignEach [tg] X.env).map (·.2) = [assign tg X.env] := by rfl) : CS X B W (.Assign [tg] e pos) (sAsg g m) := by
  refine PS.imp (ps_asg he hg hs hw h1) ?_
  rintro D σ H ⟨μ, st, env, n, r, h, hq⟩
  refine sfirst n h hq fun d st1 μ1 H1 v h1 s1 n1 r1 => ?_
  split at h1
  · rename_i env1 hge
    cases h1
    exact ⟨B.ρ, μ1, st1, env, d, env1, n1.rel, n1.env, r1, hge, fun σ' e' _ _ => hq _ _ _ s1 n1.rel e'⟩
  · cases h1
/-- x = [..] with a comprehension, on one line -/
theorem tLc_asg {wi : TI} {g : TG} {tt : TT} {te : TE} {vs : List Nat} {i : Nat} {σ : L2.St} {H : Hp} {D : Ends} (h : tLc wi g tt te vs σ H fun v H1 => D.nx (σ.set i (some v)) H1) : tAsg (tLc wi g tt te vs) (gName i) D σ H := h
theorem cs_setLc {i : Nat} {y : Str} {py : Pos} {elt tg iter : Expr} {ifs : List Expr} {scope : Scope} {own : List (Str × Nat)} {spos : Pos} {s : I} {g : G} {t : T} {e : E} {dom : List Nat} (hc : X.calm = true) (hN : X.N.Nodup) (hy : X.N[i]? = some y) (hyl : X.env.scope.names.lookup y = some .local)
    (hsw : swapsWith (.ListComp elt [⟨tg, iter, ifs, 0⟩] scope pos) (some (.Name y py)) spos.line X.env = pure true) (hi : CI X B W tg iter s) (ok : BlkOk X.N X.env.scope scope own)
    (hg : ∀ (s : Shared) (H : Hp) (C : Addr) (cl : List (Str × Addr)) (fp : List Addr), CG (X.blk s H scope (compEnvC scope cl C X.env) fp) tg dom g) (ht : ∀ (s : Shared) (H : Hp) (C : Addr) (cl : List (Str × Addr)) (fp : List Addr), CTs (X.blk s H scope (compEnvC scope cl C X.env) fp) ifs t)
    (he : ∀ (s : Shared) (H : Hp) (C : Addr) (cl : List (Str × Addr)) (fp : List Addr) (B' : Base), CE (X.blk s H scope (compEnvC scope cl C X.env) fp) B' WF elt e) (hd : (dom.all fun j => (own.map (·.2)).contains j) = true) (hs : ∀ x, foldedSetIterable iter X.env x = pure x := by intro _; rfl) (new : Bool) :
    CS X B W (.Assign [.Name y py] (.ListComp elt [⟨tg, iter, ifs, 0⟩] scope pos) spos) (sSet i (if new then eNew (lComp s g t e (own.map (·.2))) else eL (lComp s g t e (own.map (·.2))))) := by
  refine PS.imp (ps_setLc (te := tMx X.K X.nm e) (tt := tMTx X.K X.nm t) (g := tMG X.K X.nm dom g) hc hN hy hyl hsw hi ok hg ht (fun s H C cl fp => cx_of (he s H C cl fp)) hs) ?_
  rintro D σ H ⟨μ, st, env, n, r, h, hq⟩
  refine tLc_asg (comp_read (B := B) (W := W) (fun j hj => by
    have := List.all_eq_true.mp hd j hj
    simpa using this) σ H _ ?_)
  cases new with
  | true =>
    rw [if_pos rfl] at h
    rcases sBnd_inv h with ⟨d, st1, e1, h1⟩ | ⟨x, st1, e1, rfl⟩
    · rcases bnd_inv e1 with ⟨ds, st2, e2, h2⟩ | ⟨x, st2, e2, z⟩
      · refine ⟨μ, st, env, n, _, e2, fun μ1 H1 p vs s1 R1 f1 f2 r1 => ?_⟩
        cases h2
        split at h1
        · cases h1
          have s2 : Step μ H (μ1 ++ [p]) H1 := by
            obtain ⟨⟨ν, rfl, hν⟩, k⟩ := s1
            exact ⟨⟨ν ++ [p], List.append_assoc .., fun q hq => by
              rcases List.mem_append.mp hq with z | z
              · exact hν q z
              · simp at z; subst z; exact f1⟩, k⟩
          have R2 := R1.take_in f2 r1
          exact hq _ _ _ s2 R2 ((n.next s2 R2).env.set (.loc (by rw [← R1.len]; simp)))
        · cases h1
      · cases z
    · rcases bnd_inv e1 with ⟨ds, st2, e2, h2⟩ | ⟨x', st2, e2, z⟩
      · cases h2
      · cases z
        exact ⟨μ, st, env, n, _, e2, hq⟩
  | false =>
    rw [if_neg Bool.false_ne_true] at h
    rcases sBnd_inv h with ⟨d, st1, e1, h1⟩ | ⟨x, st1, e1, rfl⟩
    · rcases bnd_inv e1 with ⟨ds, st2, e2, h2⟩ | ⟨x, st2, e2, z⟩
      · refine ⟨μ, st, env, n, _, e2, fun μ1 H1 p vs s1 R1 f1 f2 r1 => ?_⟩
        cases h2
        split at h1
        · cases h1
          exact hq _ _ _ s1 R1.free ((n.next s1 R1.free).env.set (.lst (R1.res p List.mem_cons_self).1 (List.nodup_cons.mp R1.rn).1 f2 r1.free))
        · cases h1
      · cases z
    · rcases bnd_inv e1 with ⟨ds, st2, e2, h2⟩ | ⟨x', st2, e2, z⟩
      · cases h2
      · cases z
        exact ⟨μ, st, env, n, _, e2, hq⟩
/-- x op= e -/
theorem cs_augI {i : Nat} {x : Str} {op : Operator} {f : Int → Int → Int} {fd : Op} {pos' : Pos} (hN : X.N.Nodup) (hi : X.N[i]? = some x) (hx : Loc X.env.scope x) (he : CE X B W e m) (ho : PIp X op (ipI f)) (hfd : ∀ x y d, fd x y = some d → ∃ i j, x = .int i ∧ y = .int j ∧ d = .int (f i j)) (hf : X.fn x = true ∨ X.env.scope.names.lookup x = some .local := by first | exact .inl rfl | exact .inr rfl | assumption) :
    CS X B W (.AugAssign (.Name x pos') op e pos) (sAug i fd m) := by
  refine PS.imp (ps_aug hN hi hx he ho hf) ?_
  rintro D σ H ⟨μ, st, env, n, r, h, hq⟩
  have hv : ∃ dx, env[i]? = some (some dx) ∧ sBnd (m env) env (fun y st1 => match fd dx y with | some d => some (.nx (env.set i (some d)) st1) | none => none) st = some r := by
    have h : sBnd (bnd (eVar i env) fun x => bnd (m env) fun y => need (fd x y)) env (fun d st => some (.nx (env.set i (some d)) st)) st = some r := h
    rcases sBnd_inv h with ⟨d, st1, e1, h1⟩ | ⟨x, st1, e1, rfl⟩
    · rcases bnd_inv e1 with ⟨dx, st2, e2, h2⟩ | ⟨x, st2, e2, z⟩
      · obtain ⟨dx', e3, z⟩ := need_inv e2
        cases z
        have e' : env[i]? = some (some dx) := by
          split at e3
          · rename_i u q; cases e3; exact q
          · cases e3
        refine ⟨dx, e', ?_⟩
        rcases bnd_inv h2 with ⟨dy, st3, e4, h3⟩ | ⟨x, st3, e4, z⟩
        · obtain ⟨dz, e5, z⟩ := need_inv h3
          cases z
          cases h1
          unfold sBnd
          rw [e4]
          dsimp only
          rw [e5]
        · cases z
      · cases z
    · rcases bnd_inv e1 with ⟨dx, st2, e2, h2⟩ | ⟨x', st2, e2, z⟩
      · obtain ⟨dx', e3, z⟩ := need_inv e2
        cases z
        have e' : env[i]? = some (some dx) := by
          split at e3
          · rename_i u q; cases e3; exact q
          · cases e3
        refine ⟨dx, e', ?_⟩
        rcases bnd_inv h2 with ⟨dy, st3, e4, h3⟩ | ⟨x', st3, e4, z⟩
        · obtain ⟨dz, e5, z⟩ := need_inv h3
          cases z
        · cases z
          unfold sBnd
          rw [e4]
      · obtain ⟨dx', e3, z⟩ := need_inv e2
        cases z
  obtain ⟨dx, e', h⟩ := hv
  obtain ⟨v, h1, h2⟩ := n.env.val i dx e'
  refine ⟨v, h1, sfirst n h hq fun d st1 μ1 H1 u h1 s1 n1 r1 => ?_⟩
  split at h1
  · rename_i dz e5
    cases h1
    obtain ⟨k, j, rfl, rfl, rfl⟩ := hfd _ _ _ e5
    cases h2; cases r1
    exact ⟨k, j, rfl, rfl, hq _ _ _ s1 n1.rel (n1.env.set (.int _))⟩
  · cases h1
theorem aug_add : ∀ x y d, oAdd x y = some d → (∃ i j : Int, x = .int i ∧ y = .int j) → ∃ i j, x = .int i ∧ y = .int j ∧ d = .int (i + j) := fun x y d h ⟨i, j, e1, e2⟩ => by
  subst e1; subst e2
  cases h
  exact ⟨i, j, rfl, rfl, rfl⟩
/-- + of ints -/
def oAddI : Op
  | .int i, .int j => some (.int (i + j))
  | _, _ => none
theorem cs_augAdd {i : Nat} {x : Str} {pos' : Pos} (hN : X.N.Nodup) (hi : X.N[i]? = some x) (hx : Loc X.env.scope x) (he : CE X B W e m) (hf : X.fn x = true ∨ X.env.scope.names.lookup x = some .local := by first | exact .inl rfl | exact .inr rfl | assumption) :
    CS X B W (.AugAssign (.Name x pos') .Add e pos) (sAug i oAddI m) :=
  cs_augI hN hi hx he ip_add (fun x y d h => by
    cases x <;> cases y <;> simp only [oAddI] at h <;> try (cases h; done)
    cases h
    exact ⟨_, _, rfl, rfl, rfl⟩) hf
/-- o[i] = e, o a list of the store -/
theorem cs_put {i : Expr} {tpos : Pos} (ho : CE X B W o mo) (hi : CE X B W i mi) (he : CE X B W e m) (hs : swapsWithSole [.Subscript o i tpos] e pos.line X.env = pure false := by rfl) (hw : swappedStores [.Subscript o i tpos] e X.env = pure none := by rfl)
    (h1 : (assignEach [.Subscript o i tpos] X.env).map (·.2) = [assign (.Subscript o i tpos) X.env] := by rfl)
    (ha : ∀ v, assign (.Subscript o i tpos) X.env v = (do
      let ov ← holding [v] (eval o X.env)
      let iv ← holding [v, ov] (eval i X.env)
      standAt tpos
      holding [v, ov, iv] (setItem ov iv v)
      release [v, ov, iv] []) := by intro _; rfl) : CS X B W (.Assign [.Subscript o i tpos] e pos) (sPut mo mi m) := by
  refine PS.imp (ps_asg he (pg_sub ho hi set_list ha) hs hw h1) ?_
  rintro D σ H ⟨μ, st, env, n, r, h, hq⟩
  refine sfirst n h hq fun d st1 μ1 H1 v h1 s1 n1 r1 => ?_
  rcases sBnd_inv h1 with ⟨p, st2, e1, h2⟩ | ⟨x, st2, e1, rfl⟩
  · show tM _ _ _ _ _ _ _ _
    rcases bnd_inv e1 with ⟨ox, st3, e2, h3⟩ | ⟨x, st3, e2, z⟩
    · refine ⟨μ1, st1, env, n1, _, e2, fun μ2 H2 u s2 R2 r2 => ?_⟩
      have n2 := n1.next s2 R2
      rcases bnd_inv h3 with ⟨ix, st4, e3, h4⟩ | ⟨x, st4, e3, z⟩
      · refine ⟨μ2, st3, env, n2, _, e3, fun μ3 H3 w s3 R3 r3 => ?_⟩
        have n3 := n2.next s3 R3
        cases ret_inv h4
        have r1' := (r1.step n1.rel s2).step n2.rel s3
        have r2' := r2.step n2.rel s3
        split at h2
        · rename_i l k hp
          cases hp
          split at h2
          · rename_i ds hl
            split at h2
            · rename_i j hj
              cases h2
              cases r3
              cases r2' with
              | loc ha =>
                obtain ⟨vs, q1, q2⟩ := n3.rel.obj _ _ _ ha hl
                refine ⟨_, vs, k, j, rfl, rfl, q1, by rw [q2.length]; exact hj, ?_⟩
                have s4 : Step μ3 H3 μ3 (upd H3 _ (.lst (vs.set j v))) := Step.put ha
                have R4 := n3.rel.put ha (q2.set r1' j)
                exact hq _ _ _ (((s1.trans n1.rel s2).trans n2.rel s3).trans n3.rel s4) R4 (n3.env.step n3.rel s4)
            · cases h2
          · cases h2
        · cases h2
      · cases z
    · cases z
  · show tM _ _ _ _ _ _ _ _
    rcases bnd_inv e1 with ⟨ox, st3, e2, h3⟩ | ⟨x', st3, e2, z⟩
    · refine ⟨μ1, st1, env, n1, _, e2, fun μ2 H2 u s2 R2 r2 => ?_⟩
      rcases bnd_inv h3 with ⟨ix, st4, e3, h4⟩ | ⟨x', st4, e3, z⟩
      · cases ret_inv h4
      · cases z
        exact ⟨μ2, st3, env, n1.next s2 R2, _, e3, hq⟩
    · cases z
      exact ⟨μ1, st1, env, n1, _, e2, hq⟩
theorem tyV_list {K : PySem.W.Frag} {mg : Ctx} {μ : List Addr} {H : Hp} {st : Store} {l : Nat} {v : V} {ds : List D} (R : Rel K mg μ st H) (r : RD K mg μ H v (.loc l)) (h : st[l]? = some (.lst ds)) : tyV K "list" v H := by
  cases r with
  | loc ha =>
    obtain ⟨vs, q1, q2⟩ := R.obj _ _ _ ha h
    exact .inl ⟨rfl, vs, SqL.of q1⟩
theorem loc_first {m : E} {β : Type} {mg : Ctx} {K : PySem.W.Frag} {k : Nat → M β} {r : R β} {μ : List Addr} {st0 : Store} {H : Hp} {σ : L2.St} {env : Env} {Q : VK} (n : Now K mg B μ st0 H σ env) (h : bnd (eLoc m env) k st0 = some r) (hx : ∀ x st1, r = .ex x st1 → W x env st1)
    (ok : ∀ l a ds st1 μ1 H1, k l st1 = some r → Step μ H μ1 H1 → Now K mg B μ1 st1 H1 σ env → μ1[l]? = some a → st1[l]? = some (.lst ds) → Q (.ref a) H1) : tM K mg B W m σ H Q := by
  have h' : bnd (m env) (fun x => bnd (look fun st => match x with | .loc l => (match st[l]? with | some (.lst _) => some l | _ => none) | _ => none) k) st0 = some r := by
    rw [← bnd_assoc]; exact h
  refine first n h' hx fun d st1 μ1 H1 v h1 s1 n1 r1 => ?_
  rcases bnd_inv h1 with ⟨l, st2, e, h2⟩ | ⟨x, st2, e, rfl⟩
  · obtain ⟨l', e2, z⟩ := look_inv e
    cases z
    split at e2
    · rename_i l2
      split at e2
      · rename_i ds hl
        cases e2
        cases r1 with
        | loc ha => exact ok _ _ ds _ _ _ h2 s1 n1 ha hl
      · cases e2
    · cases e2
  · obtain ⟨l', e2, z⟩ := look_inv e
    cases z
theorem cs_app {apos : Pos} (ho : CE X B W o mo) (he : CE X B W e m) (hbase : attributeBase o "append" X.env (eval o X.env) = eval o X.env := by rfl) (hline : (apos.endLine == pos.line) = true := by rfl)
    (hfew : ((backTo pos (starEach (e :: []) X.env)).all (fun x => !x.1) && (backToKw pos (keywordEach [] X.env)).all (fun x => x.1.isSome)
      && decide ((e :: []).length + ([] : List Keyword).length + (if ([] : List Keyword).isEmpty then 0 else 1) < 30)) = true := by rfl)
    (he1 : starEach (e :: []) X.env = (false, eval e X.env) :: starEach [] X.env := by rfl) (hpl : (backTo pos (starEach [] X.env)).any (·.1) = false := by rfl) {pos2 : Pos} (hs2 : swapsWith (.Call (.Attribute o "append" apos) [e] [] pos) none pos2.line X.env = pure false := by rfl) :
    CS X B W (.Expr (.Call (.Attribute o "append" apos) [e] [] pos) pos2) (sApp mo m) := by
  refine PS.imp (ps_expr (pe_bm PySem.F.plainAttrs_list PySem.F.slot_list_append PySem.F.type_list_append mt_append ho (pa_cons he pa_nil he1) hbase hfew hline he1 hpl) hs2) ?_
  rintro D σ H ⟨μ, st, env, n, r, h, hq⟩
  unfold sApp at h
  rcases sBnd_inv h with ⟨p, st1, e1, h1⟩ | ⟨x, st1, e1, rfl⟩
  · refine loc_first (W := W) n e1 (fun x st1 z => nomatch z) fun l a ds st2 μ1 H1 h2 s1 n1 ha hl => ?_
    refine ⟨tyV_list n1.rel (.loc ha) hl, ?_⟩
    refine first n1 h2 (fun x st1 z => nomatch z) fun d st3 μ2 H2 v h3 s2 n2 r2 => ?_
    cases ret_inv h3
    dsimp only at h1
    split at h1
    · rename_i ds2 hl2
      split at h1
      · rename_i hz
        cases h1
        have ha2 := s2.idx ha
        obtain ⟨vs, q1, q2⟩ := n2.rel.obj _ _ _ ha2 hl2
        refine ⟨a, vs, v, rfl, rfl, q1, by rw [q2.length, sizeLine_eq]; exact of_decide_eq_true ((okLt_eq _).symm.trans hz), ?_⟩
        have s3 : Step μ2 H2 μ2 (upd H2 a (.lst (vs ++ [v]))) := Step.put ha2
        have R3 := n2.rel.put ha2 (q2.app (.cons r2 .nil))
        exact hq _ _ _ ((s1.trans n1.rel s2).trans n2.rel s3) R3 (n2.env.step n2.rel s3)
      · cases h1
    · cases h1
  · refine loc_first (W := W) n e1 (fun x' st1' z => by cases z; exact hq) fun l a ds st2 μ1 H1 h2 s1 n1 ha hl => ?_
    refine ⟨tyV_list n1.rel (.loc ha) hl, ?_⟩
    refine first n1 h2 (fun x' st1' z => by cases z; exact hq) fun d st3 μ2 H2 v h3 s2 n2 r2 => ?_
    cases ret_inv h3
theorem cs_ext {apos : Pos} (ho : CE X B W o mo) (he : CE X B W e m) (hbase : attributeBase o "extend" X.env (eval o X.env) = eval o X.env := by rfl) (hfew : ((backTo pos (starEach (e :: []) X.env)).all (fun x => !x.1) && (backToKw pos (keywordEach [] X.env)).all (fun x => x.1.isSome)
      && decide ((e :: []).length + ([] : List Keyword).length + (if ([] : List Keyword).isEmpty then 0 else 1) < 30)) = true := by rfl) (hline : (apos.endLine == pos.line) = true := by rfl)
    (he1 : starEach (e :: []) X.env = (false, eval e X.env) :: starEach [] X.env := by rfl) (hpl : (backTo pos (starEach [] X.env)).any (·.1) = false := by rfl) {pos2 : Pos} (hs2 : swapsWith (.Call (.Attribute o "extend" apos) [e] [] pos) none pos2.line X.env = pure false := by rfl) :
    CS X B W (.Expr (.Call (.Attribute o "extend" apos) [e] [] pos) pos2) (sExt mo m) := by
  refine PS.imp (ps_expr (pe_bm PySem.F.plainAttrs_list PySem.F.slot_list_extend PySem.F.type_list_extend mt_extend ho (pa_cons he pa_nil he1) hbase hfew hline he1 hpl) hs2) ?_
  rintro D σ H ⟨μ, st, env, n, r, h, hq⟩
  unfold sExt at h
  rcases sBnd_inv h with ⟨p, st1, e1, h1⟩ | ⟨x, st1, e1, rfl⟩
  · refine loc_first (W := W) n e1 (fun x st1 z => nomatch z) fun l a ds st2 μ1 H1 h2 s1 n1 ha hl => ?_
    refine ⟨tyV_list n1.rel (.loc ha) hl, ?_⟩
    refine first n1 h2 (fun x st1 z => nomatch z) fun d st3 μ2 H2 v h3 s2 n2 r2 => ?_
    rcases bnd_inv h3 with ⟨xs, st4, e4, h4⟩ | ⟨x, st4, e4, z⟩
    case inr => cases z
    obtain ⟨xs', e5, z⟩ := look_inv e4
    cases z
    cases ret_inv h4
    dsimp only at h1
    split at h1
    · rename_i ds2 hl2
      split at h1
      · rename_i hz
        cases h1
        have ha2 := s2.idx ha
        obtain ⟨vs, q1, q2⟩ := n2.rel.obj _ _ _ ha2 hl2
        obtain ⟨b, ws, rfl, w1, w2⟩ := lst_of n2.rel r2 e5
        refine ⟨a, b, vs, ws, rfl, rfl, q1, w1, by rw [q2.length, w2.length]; exact oklen hz, ?_⟩
        have s3 : Step μ2 H2 μ2 (upd H2 a (.lst (vs ++ ws))) := Step.put ha2
        have R3 := n2.rel.put ha2 (q2.app w2)
        exact hq _ _ _ ((s1.trans n1.rel s2).trans n2.rel s3) R3 (n2.env.step n2.rel s3)
      · cases h1
    · cases h1
  · refine loc_first (W := W) n e1 (fun x' st1' z => by cases z; exact hq) fun l a ds st2 μ1 H1 h2 s1 n1 ha hl => ?_
    refine ⟨tyV_list n1.rel (.loc ha) hl, ?_⟩
    refine first n1 h2 (fun x' st1' z => by cases z; exact hq) fun d st3 μ2 H2 v h3 s2 n2 r2 => ?_
    rcases bnd_inv h3 with ⟨xs, st4, e4, h4⟩ | ⟨x, st4, e4, z⟩
    · cases ret_inv h4
    · obtain ⟨xs', e5, z'⟩ := look_inv e4
      cases z'
end
end Mi
end
set_option Elab.async false
set_option linter.all false
set_option autoImplicit false
set_option maxRecDepth 100000
set_option maxHeartbeats 2000000
/-! Mi: loops, calls, functions. -/
noncomputable section
namespace Mi
open PySem PySem.Spec PyProof.Rows L2
section
variable {X : Cx} {B : Base} {W : Wish} {a b c e o : Expr} {ma mb mo mi m : E} {t : T} {st : Stmt} {sts body : List Stmt} {ms ms2 : S} {pos p : Pos}
theorem cs_for {tg iter : Expr} {s : I} {g : G} {dom : List Nat} (hp : PassesOwn (model X.prog X.w) X.A X.env X.xe) (hc : X.calm = true) (hi : CI X B W tg iter s) (hg : CG X tg dom g) (hb : CSs X B W body ms) (hs : ∀ x, foldedSetIterable iter X.env x = pure x := by intro _; rfl) :
    CS X B W (.For tg iter body [] pos) (sFor s g ms) := by
  refine PS.imp (ps_for hp hc hi hg hb hs) ?_
  rintro D σ H ⟨μ, st, env, n, r, h, hq⟩
  rcases sBnd_inv h with ⟨src, st1, e1, h1⟩ | ⟨x, st1, e1, rfl⟩
  case inr => exact ⟨μ, st, env, n, _, e1, hq⟩
  refine ⟨μ, st, env, n, _, e1, fun μ1 H1 J s1 R1 SR live => ?_⟩
  have n1 := n.next s1 R1
  -- what is wanted behind a turn of the body
  have turn : ∀ {μ2 : List Addr} {st2 : Store} {H2 H3 : Hp} {σ2 : L2.St} {env2 env3 : Env} {it : Item} {d : Mi.D} {x : V} {rb : RS} {N : L2.St → Hp → Prop}, Step μ1 H1 μ2 H2 → Rel X.K ⟨X.nm, B.ρ⟩ μ2 st2 H2 → REnv X.K ⟨X.nm, B.ρ⟩ μ2 H2 σ2 env2 → ItR X.K ⟨X.nm, B.ρ⟩ μ2 H2 it d → Hands H2 it x H3 →
      g d env2 = some env3 → ms env3 st2 = some rb → (∀ μ4 H4 σ4 env4 st4, (rb = .nx env4 st4 ∨ rb = .ct env4 st4) → Step μ1 H1 μ4 H4 → Rel X.K ⟨X.nm, B.ρ⟩ μ4 st4 H4 → REnv X.K ⟨X.nm, B.ρ⟩ μ4 H4 σ4 env4 → N σ4 H4) →
      (∀ env4 st4, rb = .bk env4 st4 → r = .nx env4 st4) → (∀ d st4, rb = .rt d st4 → r = .rt d st4) → (∀ x env4 st4, rb = .ex x env4 st4 → r = .ex x env4 st4) →
      tMG X.K X.nm dom g x σ2 H3 fun σ4 H4 => tMS X.K ⟨X.nm, B.ρ⟩ B W ms { D with nx := N, ct := N, bk := D.nx } σ4 H4 := by
    intro μ2 st2 H2 H3 σ2 env2 env3 it d x rb N s2 R2 re2 ir hy hg hb k1 k2 k3 k4
    obtain ⟨s3, R3, rd⟩ := hands_rd R2 ir hy
    have s23 := s2.trans R2 s3
    refine ⟨B.ρ, μ2, st2, env2, d, env3, R3, re2.step R2 s3, rd, hg, fun σ4 re4 _ _ => ?_⟩
    refine ⟨μ2, st2, env3, ⟨n1.step.trans R1 s23, R3, re4⟩, rb, hb, ?_⟩
    cases rb with
    | nx env4 st4 => exact fun μ' H' σ' s R re => k1 μ' H' σ' env4 st4 (.inl rfl) (s23.trans R3 s) R re
    | ct env4 st4 => exact fun μ' H' σ' s R re => k1 μ' H' σ' env4 st4 (.inr rfl) (s23.trans R3 s) R re
    | bk env4 st4 =>
      have := k2 env4 st4 rfl
      subst this
      exact fun μ' H' σ' s R re => hq μ' H' σ' ((s1.trans R1 s23).trans R3 s) R re
    | rt d st4 =>
      have := k3 d st4 rfl
      subst this
      exact fun μ' H' σ' s R re => hq μ' H' σ' ((s1.trans R1 s23).trans R3 s) R re
    | ex x env4 st4 =>
      have := k4 x env4 st4 rfl
      subst this
      exact hq
  cases src with
  | fix ds =>
    obtain ⟨its, i1, i2⟩ := SR
    have il := i1.length
    refine ⟨fun i m σ2 H2 => ∃ μ2 st2 env2, m = ds.length - i ∧ i ≤ ds.length ∧ Step μ1 H1 μ2 H2 ∧ Rel X.K ⟨X.nm, B.ρ⟩ μ2 st2 H2 ∧ REnv X.K ⟨X.nm, B.ρ⟩ μ2 H2 σ2 env2 ∧ forFix g ms (ds.drop i) env2 st2 = some r,
      ⟨ds.length, μ1, st1, env, by omega, Nat.zero_le _, Step.refl _ _, R1, n1.env, h1⟩, ?_⟩
    rintro i m σ2 H2 ⟨μ2, st2, env2, rfl, hi, s2, R2, re2, hf⟩
    by_cases hlt : i < ds.length
    · have hdi : ds[i]? = some ds[i] := List.getElem?_eq_getElem hlt
      obtain ⟨it, hit, ir⟩ := (ItsR.step R1 s2 i1).get hdi
      obtain ⟨go, yl⟩ := (i2 H2 s2.kp i).1 it hit
      rw [List.drop_eq_getElem_cons hlt] at hf
      unfold forFix at hf
      split at hf
      · cases hf
      · rename_i env3 hg3
        refine .inr ⟨go, fun σ' H' => ∃ μ3 st3 env4, Step μ1 H1 μ3 H' ∧ Rel X.K ⟨X.nm, B.ρ⟩ μ3 st3 H' ∧ REnv X.K ⟨X.nm, B.ρ⟩ μ3 H' σ' env4 ∧ forFix g ms (ds.drop (i + 1)) env4 st3 = some r,
          fun σ' H' ⟨μ3, st3, env4, a1, a2, a3, a4⟩ => ⟨ds.length - (i + 1), by omega, μ3, st3, env4, rfl, hlt, a1, a2, a3, a4⟩, fun x H3 y => ?_⟩
        cases hb3 : ms env3 st2 with
        | none => rw [hb3] at hf; cases hf
        | some rb =>
          rw [hb3] at hf
          refine turn s2 R2 re2 ir (yl x H3 y) hg3 hb3 (fun μ4 H4 σ4 env4 st4 hr a1 a2 a3 => ⟨μ4, st4, env4, a1, a2, a3, ?_⟩) ?_ ?_ ?_
          · rcases hr with rfl | rfl <;> exact hf
          · rintro env4 st4 rfl; exact (Option.some.inj hf).symm
          · rintro d st4 rfl; exact (Option.some.inj hf).symm
          · rintro x env4 st4 rfl; exact (Option.some.inj hf).symm
    · have e : i = ds.length := by omega
      subst e
      rw [List.drop_length] at hf
      cases hf
      exact .inl ⟨(i2 H2 s2.kp _).2 il, hq _ _ _ (s1.trans R1 s2) R2 re2⟩
  | live l nn =>
    obtain ⟨a, ha, rfl⟩ := SR
    refine ⟨fun i m σ2 H2 => ∃ μ2 st2 env2, Step μ1 H1 μ2 H2 ∧ Rel X.K ⟨X.nm, B.ρ⟩ μ2 st2 H2 ∧ REnv X.K ⟨X.nm, B.ρ⟩ μ2 H2 σ2 env2 ∧ forLive g ms l m i env2 st2 = some r,
      ⟨nn, μ1, st1, env, Step.refl _ _, R1, n1.env, h1⟩, ?_⟩
    rintro i m σ2 H2 ⟨μ2, st2, env2, s2, R2, re2, hf⟩
    have ha2 := s2.idx ha
    cases m with
    | zero =>
      unfold forLive at hf
      split at hf
      · rename_i ds hl
        split at hf
        · rename_i hle
          cases hf
          obtain ⟨ws, w1, w2⟩ := R2.obj l a _ ha2 hl
          exact .inl ⟨⟨ws, SqL.of w1, by rw [w2.length]; exact hle⟩, hq _ _ _ (s1.trans R1 s2) R2 re2⟩
        · cases hf
      · cases hf
    | succ m =>
      unfold forLive at hf
      split at hf
      · rename_i ds hl
        split at hf
        · cases hf
        · rename_i d hdi
          split at hf
          · cases hf
          · rename_i env3 hg3
            obtain ⟨ws, w1, w2⟩ := R2.obj l a _ ha2 hl
            obtain ⟨v, hv, rv⟩ := w2.get hdi
            refine .inr ⟨⟨ws, v, SqL.of w1, hv⟩, fun σ' H' => ∃ μ3 st3 env4, Step μ1 H1 μ3 H' ∧ Rel X.K ⟨X.nm, B.ρ⟩ μ3 st3 H' ∧ REnv X.K ⟨X.nm, B.ρ⟩ μ3 H' σ' env4 ∧ forLive g ms l m (i + 1) env4 st3 = some r,
              fun σ' H' ⟨μ3, st3, env4, a1, a2, a3, a4⟩ => ⟨m, Nat.lt_succ_self _, μ3, st3, env4, a1, a2, a3, a4⟩, fun x H3 y => ?_⟩
            have hxv : x = v := by
              have := y.2 ws (SqL.of w1)
              rw [hv] at this
              exact (Option.some.inj this).symm
            cases hb3 : ms env3 st2 with
            | none => rw [hb3] at hf; cases hf
            | some rb =>
              rw [hb3] at hf
              refine turn (it := .one v) s2 R2 re2 rv ⟨hxv, y.1⟩ hg3 hb3 (fun μ4 H4 σ4 env4 st4 hr a1 a2 a3 => ⟨μ4, st4, env4, a1, a2, a3, ?_⟩) ?_ ?_ ?_
              · rcases hr with rfl | rfl <;> exact hf
              · rintro env4 st4 rfl; exact (Option.some.inj hf).symm
              · rintro d st4 rfl; exact (Option.some.inj hf).symm
              · rintro x env4 st4 rfl; exact (Option.some.inj hf).symm
      · cases hf
theorem cs_while {c : Expr} (fuel : Nat) (hp : PassesOwn (model X.prog X.w) X.A X.env X.xe) (hc : CT X B W c t) (hb : CSs X B W body ms) : CS X B W (.While c body [] pos) (sWhile fuel t ms) := by
  refine PS.imp (ps_while hp hc hb) ?_
  rintro D σ H ⟨μ, st, env, n, r, h, hq⟩
  refine ⟨fun m σ2 H2 => ∃ μ2 st2 env2, Step μ H μ2 H2 ∧ Rel X.K ⟨X.nm, B.ρ⟩ μ2 st2 H2 ∧ REnv X.K ⟨X.nm, B.ρ⟩ μ2 H2 σ2 env2 ∧ whN t ms m env2 st2 = some r, ⟨fuel, μ, st, env, Step.refl _ _, n.rel, n.env, h⟩, ?_⟩
  rintro m σ2 H2 ⟨μ2, st2, env2, s2, R2, re2, hw⟩
  cases m with
  | zero => cases hw
  | succ m =>
    unfold whN at hw
    have n2 : Now X.K ⟨X.nm, B.ρ⟩ B μ2 st2 H2 σ2 env2 := ⟨n.step.trans n.rel s2, R2, re2⟩
    refine sfirstT n2 hw (hq.later R2 s2) fun k st3 μ3 H3 h3 s3 n3 => ?_
    cases k with
    | true =>
      rw [if_pos rfl] at h3
      rw [if_pos rfl]
      have s13 := s2.trans R2 s3
      refine ⟨fun σ' H' => ∃ μ3 st3 env4, Step μ H μ3 H' ∧ Rel X.K ⟨X.nm, B.ρ⟩ μ3 st3 H' ∧ REnv X.K ⟨X.nm, B.ρ⟩ μ3 H' σ' env4 ∧ whN t ms m env4 st3 = some r, fun σ' H' ⟨μ3, st3, env4, a1, a2, a3, a4⟩ => ⟨m, Nat.lt_succ_self _, μ3, st3, env4, a1, a2, a3, a4⟩, ?_⟩
      cases hb3 : ms env2 st3 with
      | none => rw [hb3] at h3; cases h3
      | some rb =>
        rw [hb3] at h3
        refine ⟨μ3, st3, env2, n3, rb, hb3, ?_⟩
        cases rb with
        | nx env4 st4 => exact fun μ' H' σ' s R re => ⟨μ', st4, env4, s13.trans n3.rel s, R, re, h3⟩
        | ct env4 st4 => exact fun μ' H' σ' s R re => ⟨μ', st4, env4, s13.trans n3.rel s, R, re, h3⟩
        | bk env4 st4 =>
          cases h3
          exact fun μ' H' σ' s R re => hq μ' H' σ' (s13.trans n3.rel s) R re
        | rt d st4 =>
          cases h3
          exact fun μ' H' σ' s R re => hq μ' H' σ' (s13.trans n3.rel s) R re
        | ex x env4 st4 =>
          cases h3
          exact hq
    | false =>
      rw [if_neg Bool.false_ne_true] at h3
      rw [if_neg Bool.false_ne_true]
      cases h3
      exact hq _ _ _ (s2.trans R2 s3) n3.rel n3.env
end

/-! ### functions -/
/-- a def's promise: it does what f says -/
def spF (K : PySem.W.Frag) (mg : Str → Option Value) (w : World) (n : Nat) (f : Fn) : Sp := fun vs H Q E => vs.length = n ∧ ∃ ρ μ st ds, Rel K ⟨⟨mg, w⟩, ρ⟩ μ st H ∧ RDs K ⟨⟨mg, w⟩, ρ⟩ μ H vs ds ∧ ∃ r, f ds st = some r ∧ (match r with
  | .ok d st' => ∀ μ' H' v, Step μ H μ' H' → Rel K ⟨⟨mg, w⟩, ρ⟩ μ' st' H' → RD K ⟨⟨mg, w⟩, ρ⟩ μ' H' v d → Q v H'
  | .ex x st' => ∀ μ' H' cls d, Step μ H μ' H' → Rel K ⟨⟨mg, w⟩, ρ⟩ μ' st' H' → ExR K ⟨⟨mg, w⟩, ρ⟩ μ' H' x cls d → E cls d H')
section
variable {X : Cx} {B : Base} {W : Wish} {e : Expr} {es : List Expr} {pos p : Pos}
theorem takes_wf (hx : ∀ e s, X.xe e s ↔ False) {mg : Ctx} : Takes X (liftW X.K mg B WF) := fun u s' ⟨a, B', sI, pins, σ, H, cls, d, e, I, nb, up, sky, na, os, ag, w⟩ => by
  obtain ⟨μ, st, env, x, _, _, z⟩ := w
  exact z.elim
theorem ce_call {x : Str} {f : Addr} {fd : FuncData} {ps : List Str} {k : Nat} {n : Nat} {sem : Fn} {ma : EL} (F : FnOk X.prog X.w X.K X.mg X.base (L2.CX X.prog X.w) k f fd ps (spF X.K X.mg X.w n sem)) (hr : Room k X.A) (hg : Gl X x) (hm : X.mg x = some (.ref f)) (hk : PySem.W.keepIn X.K (.ref f) = true) (hb : Binds X.K fd ps [])
    (tk : Takes X (liftW X.K ⟨X.nm, B.ρ⟩ B W)) (ha : CA X B W (e :: es) ma) (hn : (e :: es).length = n) (hln : ∀ env st ds st', ma env st = some (.ok ds st') → ds.length = n) (hdb : (x == ("__debug__" : Str)) = false := by decide) (he : starEach (e :: es) X.env = (false, eval e X.env) :: starEach es X.env := by rfl) (hpl : (backTo pos (starEach es X.env)).any (·.1) = false := by rfl) :
    CE X B W (.Call (.Name x p) (e :: es) [] pos) (eCall sem ma) := by
  refine PE.imp (pe_callS F hr hg hm hk hb (fun σ => passAt tk σ) ha hdb he hpl) ?_
  rintro σ H Q ⟨μ, st, env, n, r, h, hq⟩
  rcases bnd_inv h with ⟨ds, st1, e1, h1⟩ | ⟨x, st1, e1, rfl⟩
  case inr => exact ⟨μ, st, env, n, _, e1, hq⟩
  refine ⟨μ, st, env, n, _, e1, fun μ1 H1 vs s1 R1 rs => ?_⟩
  have n1 := n.next s1 R1
  refine ⟨by rw [rs.length]; exact hln _ _ _ _ e1, B.ρ, μ1, st1, ds, R1, rs, r, h1, ?_⟩
  cases r with
  | ok d st' => exact fun μ' H' v s R rd => hq μ' H' v (s1.trans R1 s) R rd
  | ex x st' => exact fun μ' H' cls d s R xr => ⟨μ', st', env, x, n1.next s R, xr, hq⟩
theorem eCons_len {a : E} {r : EL} {n : Nat} (h : ∀ env st ds st', r env st = some (.ok ds st') → ds.length = n) : ∀ env st ds st', eCons a r env st = some (.ok ds st') → ds.length = n + 1 := by
  intro env st ds st' e
  rcases bnd_inv e with ⟨d, st1, e1, e⟩ | ⟨x, st1, e1, z⟩
  · rcases bnd_inv e with ⟨ds', st2, e2, e⟩ | ⟨x, st2, e2, z⟩
    · cases e
      rw [List.length_cons, h _ _ _ _ e2]
    · cases z
  · cases z
theorem eNil_len : ∀ env st ds st', eNil env st = some (.ok ds st') → ds.length = 0 := by
  intro env st ds st' e
  cases e
  rfl
end
section
variable {P : Program} {w : World} {K : PySem.W.Frag} {mg : Str → Option Value} {base : Heap}
theorem start_env {c : Ctx} {μ : List Addr} {H : Hp} {N : List Str} {vs : List V} {ds : List D} (r : RDs K c μ H vs ds) : REnv K c μ H (L2.start N vs) (Mi.start N.length ds) := by
  refine ⟨by unfold L2.start Mi.start; simp [r.length], fun i d h => ?_⟩
  unfold Mi.start at h
  unfold L2.start
  by_cases hi : i < ds.length
  · rw [List.getElem?_append_left (by simpa using hi), List.getElem?_map] at h
    cases e : ds[i]? with
    | none => rw [e] at h; cases h
    | some d' =>
      rw [e] at h
      cases h
      obtain ⟨v, h1, h2⟩ := r.get e
      refine ⟨v, ?_, h2⟩
      rw [List.getElem?_append_left (by rw [List.length_map, r.length]; exact hi), List.getElem?_map, h1]
      rfl
  · rw [List.getElem?_append_right (by simpa using Nat.le_of_not_lt hi), List.getElem?_replicate] at h
    split at h <;> cases h
/-- THE RULE for a def -/
theorem fn_ok {x qual : Str} {st : Stmt} {f : Addr} {fd : FuncData} {N ps : List Str} {k : Nat} (F : Fun K x qual st f fd) (Sc : FnScope N ps (defScope st)) {b : S}
    (hb : ∀ (cdv : Value) (A : Around) (outer : List PySem.Env) (s : Shared) (H : Hp) (E : XK) (B : Base) (W : Wish), Room k (A.deeper (envOfC qual (defScope st) s.heap.objs.size f cdv)) →
      Takes (cxOf (L2.CX P w) P w K mg base N qual (defScope st) f cdv A outer s H E) (liftW K ⟨⟨mg, w⟩, B.ρ⟩ B W) → CSs (cxOf (L2.CX P w) P w K mg base N qual (defScope st) f cdv A outer s H E) B W (defBody st) b) :
    FnOk P w K mg base (L2.CX P w) (k + 1) f fd ps (spF K mg w ps.length (runB N.length b)) := by
  refine F.okX Sc (fun vs H Q E h => h.1) (fun cdv A outer s H vs Q E hr h => ?_)
  obtain ⟨hl, ρ, μ, s0, ds, R, rds, r, hrun, hq⟩ := h
  refine ⟨_, hb cdv A outer s H E ⟨μ, ρ, H⟩ (fun x _ st' => r = .ex x st') hr ?_, ?_⟩
  · refine Takes.imp (takes_of rfl rfl rfl rfl) ?_
    rintro cls d σ H' ⟨μ', st', env, x, n', xr, e⟩
    subst e
    exact hq μ' H' cls d n'.step n'.rel xr
  · have n0 : Now K ⟨⟨mg, w⟩, ρ⟩ ⟨μ, ρ, H⟩ μ s0 H (L2.start N vs) (Mi.start N.length ds) := ⟨Step.refl _ _, R, start_env rds⟩
    unfold runB at hrun
    cases e : b (Mi.start N.length ds) s0 with
    | none => rw [e] at hrun; cases hrun
    | some rb =>
      rw [e] at hrun
      refine ⟨μ, s0, _, n0, rb, e, ?_⟩
      cases rb with
      | nx env st' => cases hrun; exact fun μ' H' σ' s R' re => hq μ' H' .non s R' .non
      | rt d st' => cases hrun; exact hq
      | bk env st' => cases hrun
      | ct env st' => cases hrun
      | ex x env st' => cases hrun; rfl

/-! ### what the callee made for itself is forgotten -/
mutual
theorem RD.under {c : Ctx} {μ ν : List Addr} {H : Hp} : ∀ {v : V} {d : D}, RD K c (μ ++ ν) H v d → below μ.length d = true → RD K c μ H v d
  | _, _, .non, _ => .non
  | _, _, .bl b, _ => .bl b
  | _, _, .int i, _ => .int i
  | _, _, .str x, _ => .str x
  | _, _, .tup h r, hb => .tup h (RDs.under r (by simpa [below] using hb))
  | _, _, .lst hn hr h r, hb => .lst (fun z => hn (List.mem_append_left _ z)) hr h (RDs.under r (by simpa [below] using hb))
  | _, _, .rol h r, hb => .rol (by
      rcases h with ⟨hn, hr, h⟩ | h
      · exact .inl ⟨fun z => hn (List.mem_append_left _ z), hr, h⟩
      · exact .inr h) (RDs.under r (by simpa [below] using hb))
  | _, _, .dctA h hn hr r, hb => .dctA h (fun z => hn (List.mem_append_left _ z)) hr (RDk.under r (by simpa [below] using hb))
  | _, _, .dctN h hn hr r, hb => .dctN h (fun z => hn (List.mem_append_left _ z)) hr (RDn.under r (by simpa [below] using hb))
  | _, _, .rng h hn hr b, hb => .rng h (fun z => hn (List.mem_append_left _ z)) hr b
  | _, _, .loc (l := l) h, hb => .loc (by
      have hl : l < μ.length := by simpa [below] using hb
      rw [List.getElem?_append_left hl] at h
      exact h)
  | _, _, .fn h, _ => .fn h
theorem RDs.under {c : Ctx} {μ ν : List Addr} {H : Hp} : ∀ {vs : List V} {ds : List D}, RDs K c (μ ++ ν) H vs ds → belows μ.length ds = true → RDs K c μ H vs ds
  | _, _, .nil, _ => .nil
  | _, _, .cons h r, hb => by
    simp only [belows, Bool.and_eq_true] at hb
    exact .cons (RD.under h hb.1) (RDs.under r hb.2)
theorem RDk.under {c : Ctx} {μ ν : List Addr} {H : Hp} : ∀ {vs : List (Key × V)} {ds : List (D × D)}, RDk K c (μ ++ ν) H vs ds → belowk μ.length ds = true → RDk K c μ H vs ds
  | _, _, .nil, _ => .nil
  | _, _, .cons h r, hb => by
    simp only [belowk, Bool.and_eq_true] at hb
    exact .cons (RD.under h hb.2.1) (RDk.under r hb.2.2)
theorem RDn.under {c : Ctx} {μ ν : List Addr} {H : Hp} : ∀ {vs : List (NestedKey × Addr × V)} {ds : List (D × D)}, RDn K c (μ ++ ν) H vs ds → belowk μ.length ds = true → RDn K c μ H vs ds
  | _, _, .nil, _ => .nil
  | _, _, .cons e k h r, hb => by
    simp only [belowk, Bool.and_eq_true] at hb
    exact .cons e (RD.under k hb.1) (RD.under h hb.2.1) (RDn.under r hb.2.2)
end
theorem Rel.under {c : Ctx} {μ ν : List Addr} {H : Hp} {st : Store} (R : Rel K c (μ ++ ν) st H) (hb : okSt μ.length (st.take μ.length) = true) : Rel K c μ (st.take μ.length) H := by
  have hl := R.len
  rw [List.length_append] at hl
  refine ⟨by rw [List.length_take]; omega, (List.nodup_append.mp R.nd).1, R.rn, fun a ha => ⟨fun z => (R.res a ha).1 (List.mem_append_left _ z), (R.res a ha).2⟩, fun l a o h1 h2 => ?_⟩
  have hlt : l < μ.length := (List.getElem?_eq_some_iff.mp h1).1
  have ho : st[l]? = some o := by rw [List.getElem?_take_of_lt hlt] at h2; exact h2
  have q := R.obj l a o (by rw [List.getElem?_append_left hlt]; exact h1) ho
  have hbo : belowO μ.length o = true := List.all_eq_true.mp hb o (List.mem_of_getElem? h2)
  cases o with
  | lst ds => obtain ⟨vs, q1, q2⟩ := q; exact ⟨vs, q1, q2.under hbo⟩
  | dct t kds => cases t <;> (obtain ⟨vs, q1, q2⟩ := q; exact ⟨vs, q1, q2.under hbo⟩)
  | ins cn fs => obtain ⟨C, dx, vs, q0, q1, q2⟩ := q; exact ⟨C, dx, vs, q0, q1, q2.under hbo⟩
theorem thaw_rd {c : Ctx} {μ ν : List Addr} {H : Hp} {st : Store} {v : V} {d : D} (R : Rel K c (μ ++ ν) st H) (r : RD K c (μ ++ ν) H v d) (hb : below μ.length (thaw μ.length st d) = true) : RD K c μ H v (thaw μ.length st d) := by
  cases d with
  | loc l =>
    simp only [thaw] at hb ⊢
    by_cases hl : l < μ.length
    · rw [if_pos hl] at hb ⊢
      exact r.under hb
    · rw [if_neg hl] at hb ⊢
      cases r with
      | @loc a _ ha =>
        split at hb
        · rename_i ds e
          obtain ⟨vs, q1, q2⟩ := R.obj _ _ _ ha e
          have ham : a ∈ μ ++ ν := List.mem_of_getElem? ha
          refine .lst (fun z => ?_) (fun z => (R.res a z).1 ham) q1 (q2.under (by simpa [below] using hb))
          rw [List.getElem?_append_right (Nat.le_of_not_lt hl)] at ha
          exact (List.nodup_append.mp R.nd).2.2 a z a (List.mem_of_getElem? ha) rfl
        · rename_i t kds e
          have ham : a ∈ μ ++ ν := List.mem_of_getElem? ha
          have hna : a ∉ μ := fun z => by
            rw [List.getElem?_append_right (Nat.le_of_not_lt hl)] at ha
            exact (List.nodup_append.mp R.nd).2.2 a z a (List.mem_of_getElem? ha) rfl
          cases t with
          | false =>
            obtain ⟨vs, q1, q2⟩ := R.obj _ _ _ ha e
            exact .dctA q1 hna (fun z => (R.res a z).1 ham) (q2.under (by simpa [below] using hb))
          | true =>
            obtain ⟨vs, q1, q2⟩ := R.obj _ _ _ ha e
            exact .dctN q1 hna (fun z => (R.res a z).1 ham) (q2.under (by simpa [below] using hb))
        · exact absurd (by simpa [below] using hb) hl
  | _ => exact r.under hb
theorem fn_scp {f : Addr} {fd : FuncData} {ps : List Str} {k n : Nat} {m : Fn} (F : FnOk P w K mg base (L2.CX P w) k f fd ps (spF K mg w n m)) : FnOk P w K mg base (L2.CX P w) k f fd ps (spF K mg w n fun ds => scp (m ds)) := by
  refine F.imp fun vs H Q E h => ?_
  obtain ⟨hl, ρ, μ, s0, ds, R, rds, r, hrun, hq⟩ := h
  refine ⟨hl, ρ, μ, s0, ds, R, rds, ?_⟩
  have hrun : scp (m ds) s0 = some r := hrun
  unfold scp at hrun
  cases e : m ds s0 with
  | none => rw [e] at hrun; cases hrun
  | some r1 =>
    rw [e] at hrun
    refine ⟨r1, rfl, ?_⟩
    cases r1 with
    | ok d st1 =>
      dsimp only at hrun
      split at hrun
      · rename_i hb
        cases hrun
        rw [Bool.and_eq_true] at hb
        rw [← R.len] at hb hq
        intro μ' H' v s R' rd
        obtain ⟨⟨ν, rfl, hν⟩, kp⟩ := id s
        exact hq μ H' v ⟨⟨[], (List.append_nil _).symm, fun _ h => nomatch h⟩, kp⟩ (R'.under hb.2) (thaw_rd R' rd hb.1)
      · cases hrun
    | ex x st1 =>
      dsimp only at hrun
      by_cases hb : (argBelow s0.length x && okSt s0.length (st1.take s0.length)) = true
      · rw [if_pos hb] at hrun
        cases hrun
        rw [Bool.and_eq_true] at hb
        rw [← R.len] at hb hq
        intro μ' H' cls d s R' xr
        obtain ⟨⟨ν, rfl, hν⟩, kp⟩ := id s
        refine hq μ H' cls d ⟨⟨[], (List.append_nil _).symm, fun _ h => nomatch h⟩, kp⟩ (R'.under hb.2) ?_
        obtain ⟨C, c1, c2, c3⟩ := xr
        refine ⟨C, c1, c2, ?_⟩
        cases hx : x.arg with
        | none => trivial
        | some u =>
          unfold argBelow at hb
          rw [hx] at c3 hb
          obtain ⟨a, fl, v, b1, b2, b3, b4⟩ := c3
          exact ⟨a, fl, v, b1, b2, fun z => b3 (List.mem_append_left _ z), b4.under hb.1⟩
      · rw [if_neg hb] at hrun
        cases hrun
end
end Mi
end
set_option Elab.async false
set_option linter.all false
set_option autoImplicit false
set_option maxRecDepth 100000
set_option maxHeartbeats 2000000
/-! Mi: all, any, sorted; the forms that the generator writes. -/
noncomputable section
namespace Mi
open PySem PySem.Spec PyProof.Rows L2
section
variable {X : Cx} {B : Base} {W : Wish} {a b c e o : Expr} {ma mb mo mi m : E} {pos p : Pos}
def pyBools (bs : List Bool) : List PyData := bs.map .bool
theorem bools_dp {K : PySem.W.Frag} {mg : Ctx} {μ : List Addr} {H : Hp} : ∀ {vs : List V} {ds : List D} {bs : List Bool}, RDs K mg μ H vs ds → blsOf ds = some bs → DpAll K H vs (pyBools bs)
  | _, _, _, .nil, h => by cases h; exact .nil
  | _, _, _, .cons (d := d) r t, h => by
    cases d <;> simp only [blsOf] at h <;> try (cases h; done)
    split at h
    · rename_i bs e
      cases h
      cases r
      exact .cons (.bl _) (bools_dp t e)
    · cases h
theorem bools_all (bs : List Bool) : (pyBools bs).all PyData.truthy = bs.all id := by
  unfold pyBools
  rw [List.all_map]
  rfl
theorem bools_any (bs : List Bool) : (pyBools bs).any PyData.truthy = bs.any id := by
  unfold pyBools
  rw [List.any_map]
  rfl
theorem bools_plain : ∀ bs : List Bool, PyData.plainAll (pyBools bs) = true
  | [] => by simp only [pyBools, List.map_nil, PyData.plainAll]
  | b :: bs => by
    have := bools_plain bs
    simp only [pyBools, List.map_cons, PyData.plainAll, PyData.plain, Bool.true_and] at this ⊢
    exact this
theorem bools_fit (bs : List Bool) : ∀ x ∈ pyBools bs, x.fits63 := by
  intro x hx
  obtain ⟨b, _, rfl⟩ := List.mem_map.mp hx
  exact trivial
def rAllP (K : PySem.W.Frag) (any : Bool) : List V → Hp → VK → Prop := fun xs H Q => ∃ a vs bs, xs = [.ref a] ∧ SqL K H a vs ∧ DpAll K H vs (pyBools bs) ∧ Q (.bl (if any then bs.any id else bs.all id)) H
theorem call_allP (hc : X.calm = true) : CallR X (.builtin "all") (rAllP X.K false) := by
  intro pins s σ H xs us Q I r h
  obtain ⟨a, vs, bs, rfl, hs, hd, q⟩ := h
  obtain ⟨u, rfl, rx⟩ := vals1 r
  cases rx
  obtain ⟨its, rv, pl, hz⟩ := I.list hs
  obtain ⟨as, rs⟩ := Dp.readsAll I _ _ _ hd rv
  refine PySem.W.all_list_data (I.ok.hd hc) pl.isList rs (bools_plain bs) (bools_fit bs) fun h' tk k => ?_
  rw [bools_all]
  exact ⟨.bl _, H, I.kept k, rfl, q⟩
theorem call_anyP (hc : X.calm = true) : CallR X (.builtin "any") (rAllP X.K true) := by
  intro pins s σ H xs us Q I r h
  obtain ⟨a, vs, bs, rfl, hs, hd, q⟩ := h
  obtain ⟨u, rfl, rx⟩ := vals1 r
  cases rx
  obtain ⟨its, rv, pl, hz⟩ := I.list hs
  obtain ⟨as, rs⟩ := Dp.readsAll I _ _ _ hd rv
  refine PySem.W.any_list_data (I.ok.hd hc) pl.isList rs (bools_plain bs) (bools_fit bs) fun h' tk k => ?_
  rw [bools_any]
  exact ⟨.bl _, H, I.kept k, rfl, q⟩
def gAll (st : Store) (x : D) : Option D := match lstOf st x with
  | some ds => (match blsOf ds with | some bs => some (.bl (bs.all id)) | none => none)
  | none => none
def gAny (st : Store) (x : D) : Option D := match lstOf st x with
  | some ds => (match blsOf ds with | some bs => some (.bl (bs.any id)) | none => none)
  | none => none
theorem cs_all (hc : X.calm = true) : CallS X (.builtin "all") gAll := by
  refine ⟨_, call_allP hc, ?_⟩
  intro ρ μ st H v x d Q R rv h q
  unfold gAll at h
  split at h
  · rename_i ds e
    split at h
    · rename_i bs e2
      cases h
      obtain ⟨a, vs, rfl, hl, r⟩ := lst_of R rv e
      exact ⟨a, vs, bs, rfl, SqL.of hl, bools_dp r e2, q _ _ (Step.refl _ _) R (.bl _)⟩
    · cases h
  · cases h
theorem cs_any (hc : X.calm = true) : CallS X (.builtin "any") gAny := by
  refine ⟨_, call_anyP hc, ?_⟩
  intro ρ μ st H v x d Q R rv h q
  unfold gAny at h
  split at h
  · rename_i ds e
    split at h
    · rename_i bs e2
      cases h
      obtain ⟨a, vs, rfl, hl, r⟩ := lst_of R rv e
      exact ⟨a, vs, bs, rfl, SqL.of hl, bools_dp r e2, q _ _ (Step.refl _ _) R (.bl _)⟩
    · cases h
  · cases h

/-! ### sorted -/
/-- a value and its datum: what is sorted -/
def SortR (K : PySem.W.Frag) (mg : Ctx) (μ : List Addr) (H : Hp) (u : Value) (q : D × PyData) : Prop := ∃ v, RelV v u ∧ RD K mg μ H v q.1
theorem sortR_out {K : PySem.W.Frag} {mg : Ctx} {μ : List Addr} {H : Hp} : ∀ {us : List Value} {qs : List (D × PyData)}, PySem.W.EachIs (SortR K mg μ H) us qs → ∃ vs, Vals vs us ∧ RDs K mg μ H vs (qs.map (·.1))
  | _, _, .nil => ⟨[], .nil, .nil⟩
  | _, _, .cons ⟨v, h1, h2⟩ t => by
    obtain ⟨vs, q1, q2⟩ := sortR_out t
    exact ⟨v :: vs, .cons h1 q1, .cons h2 q2⟩
theorem sort_src {K : PySem.W.Frag} {mg : Ctx} {μ : List Addr} {H : Hp} {pins : List (Addr × Obj)} {s : Shared} {σ : L2.St} (hK : K = X.K) (I : Inv X pins σ H s) : ∀ {vs : List V} {us : List Value} {ds : List D} {ps : List PyData}, RDs K mg μ H vs ds → Vals vs us → DpAll K H vs ps →
    PySem.W.EachIs (SortR K mg μ H) us (ds.zip ps) ∧ PySem.W.EachIs (fun v b => ∃ as, Reads s.heap v b.2 as) us (ds.zip ps)
  | _, _, _, _, .nil, .nil, .nil => ⟨.nil, .nil⟩
  | _, _, _, _, .cons r t, .cons v w, .cons d e => by
    subst hK
    obtain ⟨h1, h2⟩ := sort_src rfl I t w e
    exact ⟨.cons ⟨_, v, r⟩ h1, .cons (Dp.reads I _ _ _ d v) h2⟩
theorem zip_snd : ∀ {ds : List D} {ps : List PyData}, ds.length = ps.length → (ds.zip ps).map (·.2) = ps
  | [], [], _ => rfl
  | [], _ :: _, h => by simp at h
  | _ :: _, [], h => by simp at h
  | d :: ds, p :: ps, h => by
    rw [List.zip_cons_cons, List.map_cons, zip_snd (by simpa using h)]
theorem dpAll_len {K : PySem.W.Frag} {H : Hp} : ∀ {vs : List V} {ps : List PyData}, DpAll K H vs ps → vs.length = ps.length
  | _, _, .nil => rfl
  | _, _, .cons _ t => by rw [List.length_cons, List.length_cons, dpAll_len t]
def rSortP (K : PySem.W.Frag) : List V → Hp → VK → Prop := fun xs H Q => ∃ (mg : Ctx) (μ : List Addr) (st : Store) (a : Addr) (vs : List V) (ds : List D) (ps : List PyData), xs = [.ref a] ∧ Rel K mg μ st H ∧ SqL K H a vs ∧ RDs K mg μ H vs ds ∧ DpAll K H vs ps ∧ alikeB ps = true ∧ (ps.all isTup1 = true ∨ ps.all noTup = true) ∧ ps.length ≤ 16777216 ∧ (∀ q ∈ ps, q.depth ≤ 64) ∧
  ∀ p ws, H p = none → RDs K mg μ H ws (((ds.zip ps).mergeSort (PySem.W.dataLe false (·.2))).map (·.1)) → Q (.ref p) (upd H p (.lst ws))
theorem call_sortP (hu : X.A.units + 90 < cLine) : CallR X (.builtin "sorted") (rSortP X.K) := by
  intro pins s σ H xs us Q I r h
  obtain ⟨mg, μ, st, a, vs, ds, ps, rfl, R, hs, rds, dps, hal, hso, hlen, hdp, q⟩ := h
  obtain ⟨u, rfl, rx⟩ := vals1 r
  cases rx
  obtain ⟨its, rv, hl, hz⟩ := I.list hs
  obtain ⟨e1, e2⟩ := sort_src rfl I rds rv dps
  have hlz : ds.length = ps.length := by rw [← rds.length, dpAll_len dps]
  have hzl : (ds.zip ps).length = ps.length := by rw [List.length_zip, hlz, Nat.min_self]
  have hmap := zip_snd hlz
  refine PySem.W.sorted_data (enc := (·.2)) (bs := ds.zip ps) hl.isList e1 e2 ?_ ?_ (by rw [hzl, sizeLine_eq]; exact hlen) (fun b hb => ?_) fun out ho eo => ?_
  · rw [hmap]
    intro d hd d' hd'
    exact List.all_eq_true.mp (List.all_eq_true.mp hal d hd) d' hd'
  · rw [hmap]
    rcases hso with h | h
    · refine .inl fun d hd => ?_
      have := List.all_eq_true.mp h d hd
      unfold isTup1 at this
      split at this
      · exact ⟨_, _, rfl⟩
      · cases this
    · refine .inr fun d hd => ?_
      have := List.all_eq_true.mp h d hd
      unfold noTup at this
      split at this
      · cases this
      · cases this
      · rename_i h1 h2
        exact ⟨h2, fun xs z => h1 xs z⟩
  · have : b.2 ∈ ps := by rw [← hmap]; exact List.mem_map.mpr ⟨b, hb, rfl⟩
    have := hdp _ this
    omega
  · obtain ⟨ws, w1, w2⟩ := sortR_out eo
    obtain ⟨ep, he'⟩ := PyProof.Rows.sortedAll_at s.heap its out.toArray
    have hlw : ws.length ≤ sizeLine := by
      rw [w1.length, ho, hzl, sizeLine_eq]; exact hlen
    exact ⟨.ref _, upd H (s.heap.objs.size + 1) (.lst ws), I.laid (t' := s.toks) (fun _ _ => PyProof.Rows.sortedAll_old) (Nat.le_succ _) ⟨hlw, out, ep, w1, he'⟩, rfl, q _ ws (I.hok.fresh (Nat.le_succ _)) w2⟩
theorem cl_sorted (hu : X.A.units + 90 < cLine) (hg : Gl X "sorted") (hm : X.mg "sorted" = none) (ha : CE X B W a ma) (he : starEach (a :: []) X.env = (false, eval a X.env) :: starEach [] X.env := by rfl) (hpl : (backTo pos (starEach [] X.env)).any (·.1) = false := by rfl) :
    CL X B W (.Call (.Name "sorted" p) [a] [] pos) (lSorted ma) := by
  refine PE.imp (pe_callB (call_sortP hu) hg hm boot_sorted (pa_cons ha pa_nil he) (by decide) (by decide) he hpl) ?_
  rintro σ H Q ⟨μ, st, env, n, r, h, hq⟩
  refine first n h (resL_ex hq) fun d st1 μ1 H1 v h1 s1 n1 r1 => ?_
  obtain ⟨es, e2, rfl⟩ := look_inv h1
  split at e2
  · rename_i ds e3
    obtain ⟨a, vs, rfl, hl, rds⟩ := lst_of n1.rel r1 e3
    unfold sortD at e2
    split at e2
    · rename_i ps e4
      split at e2
      · rename_i hc
        cases e2
        simp only [Bool.and_eq_true, Bool.or_eq_true] at hc
        refine ⟨⟨X.nm, B.ρ⟩, μ1, st1, a, vs, ds, ps, rfl, n1.rel, SqL.of hl, rds, dps_of n1.rel rds e4, hc.1.1.1, hc.1.1.2, of_decide_eq_true ((okLen_eq _).symm.trans hc.1.2), fun q hq => of_decide_eq_true (List.all_eq_true.mp hc.2 q hq), fun p ws hp rw' => ?_⟩
        obtain ⟨a1, a2, a3, a4, a5⟩ := laid_list n.rel s1 n1.rel rw' hp
        exact hq _ _ _ _ a1 a2 a3 a4 a5
      · cases e2
    · cases e2
  · cases e2
end

/-! ### the forms that the generator writes -/
section
variable {X : Cx} {B : Base} {W : Wish} {a b c e o : Expr} {ma mb mo mi m : E} {pos p p2 : Pos}
theorem cv (i : Nat) {x : Str} {pos : Pos} (hN : X.N[i]? = some x := by rfl) (hv : Vis X.env.scope x := by first | exact Or.inl rfl | exact Or.inr (Or.inl rfl) | exact Or.inr (Or.inr rfl)) (hd : (x == ("__debug__" : Str)) = false := by decide)
    (hcd : (x == ("__classdict__" : Str)) = false := by decide) : CE X B W (.Name x pos) (eVar i) := ce_var hN hv hd hcd
/-- a def of the text, by what it does -/
def OkF (P : Program) (w : World) (K : PySem.W.Frag) (mg : Str → Option Value) (base : Heap) (k : Nat) (x : Str) (ps : List Str) (sem : Fn) : Prop :=
  ∃ f fd, FnOk P w K mg base (L2.CX P w) k f fd ps (spF K mg w ps.length sem) ∧ mg x = some (.ref f) ∧ PySem.W.keepIn K (.ref f) = true ∧ Binds K fd ps []
theorem cc {x : Str} {ps : List Str} {k : Nat} {sem : Fn} {ma : EL} {e : Expr} {es : List Expr} (F : OkF X.prog X.w X.K X.mg X.base k x ps sem) (hr : Room k X.A) (tk : Takes X (liftW X.K ⟨X.nm, B.ρ⟩ B W)) (ha : CA X B W (e :: es) ma)
    (hg : Gl X x := by rfl) (hn : (e :: es).length = ps.length := by rfl) (hln : ∀ env st ds st', ma env st = some (.ok ds st') → ds.length = ps.length := by first | exact eCons_len eNil_len | exact eCons_len (eCons_len eNil_len) | exact eCons_len (eCons_len (eCons_len eNil_len)) | exact eCons_len (eCons_len (eCons_len (eCons_len eNil_len))) | exact eCons_len (eCons_len (eCons_len (eCons_len (eCons_len eNil_len))))) (hdb : (x == ("__debug__" : Str)) = false := by decide)
    (he : starEach (e :: es) X.env = (false, eval e X.env) :: starEach es X.env := by rfl) (hpl : (backTo pos (starEach es X.env)).any (·.1) = false := by rfl) : CE X B W (.Call (.Name x p) (e :: es) [] pos) (eCall sem ma) := by
  obtain ⟨f, fd, h1, h2, h3, h4⟩ := F
  exact ce_call h1 hr hg h2 h3 h4 tk ha hn hln hdb he hpl
/-- where a def stands in the text -/
def At (K : PySem.W.Frag) (mg : Str → Option Value) (x : Str) (ps : List Str) (st : Stmt) : Prop := ∃ f fd, Fun K x x st f fd ∧ mg x = some (.ref f) ∧ Binds K fd ps []
section
variable {P : Program} {w : World} {K : PySem.W.Frag} {mg : Str → Option Value} {base : Heap}
theorem okf {x : Str} {st : Stmt} {N ps : List Str} {k : Nat} (T : At K mg x ps st) (Sc : FnScope N ps (defScope st)) {b : S}
    (hb : ∀ (f : Addr) (cdv : Value) (A : Around) (outer : List PySem.Env) (s : Shared) (H : Hp) (E : XK) (B : Base) (W : Wish), Room k (A.deeper (envOfC x (defScope st) s.heap.objs.size f cdv)) →
      Takes (cxOf (L2.CX P w) P w K mg base N x (defScope st) f cdv A outer s H E) (liftW K ⟨⟨mg, w⟩, B.ρ⟩ B W) → CSs (cxOf (L2.CX P w) P w K mg base N x (defScope st) f cdv A outer s H E) B W (defBody st) b) :
    OkF P w K mg base (k + 1) x ps fun ds => scp (runB N.length b ds) := by
  obtain ⟨f, fd, h1, h2, h3⟩ := T
  exact ⟨f, fd, fn_scp (fn_ok h1 Sc (hb f)), h2, h1.kp, h3⟩
theorem okr {x : Str} {st : Stmt} {N ps : List Str} {k : Nat} (T : At K mg x ps st) (Sc : FnScope N ps (defScope st)) {b : S}
    (hb : ∀ (f : Addr) (cdv : Value) (A : Around) (outer : List PySem.Env) (s : Shared) (H : Hp) (E : XK) (B : Base) (W : Wish), Room k (A.deeper (envOfC x (defScope st) s.heap.objs.size f cdv)) →
      Takes (cxOf (L2.CX P w) P w K mg base N x (defScope st) f cdv A outer s H E) (liftW K ⟨⟨mg, w⟩, B.ρ⟩ B W) → CSs (cxOf (L2.CX P w) P w K mg base N x (defScope st) f cdv A outer s H E) B W (defBody st) b) :
    OkF P w K mg base (k + 1) x ps (runB N.length b) := by
  obtain ⟨f, fd, h1, h2, h3⟩ := T
  exact ⟨f, fd, fn_ok h1 Sc (hb f), h2, h1.kp, h3⟩
theorem ok_stuck {x : Str} {st : Stmt} {ps : List Str} {k : Nat} (T : At K mg x ps st) : OkF P w K mg base k x ps fun _ => stuck := by
  obtain ⟨f, fd, h1, h2, h3⟩ := T
  exact ⟨f, fd, ⟨fun vs H Q E h => h.1, fun A outer s H args us vs Q E hr e0 hb hv hs => by
    obtain ⟨_, _, _, _, _, _, _, r, h, _⟩ := hs
    cases h⟩, h2, h1.kp, h3⟩
theorem OkF.up {x : Str} {ps : List Str} {k j : Nat} {sem : Fn} (h : OkF P w K mg base k x ps sem) (hk : k ≤ j) : OkF P w K mg base j x ps sem := by
  obtain ⟨f, fd, h1, h2, h3⟩ := h
  exact ⟨f, fd, h1.mono hk, h2, h3⟩
theorem at_mk {x : Str} {ps : List Str} {st : Stmt} {f : Addr} {oc : Value} {od an : Option Addr} {osl : Array (Option Value)} {kV doc pm cdv ct : Value} {h : Heap} (X : K.In h) (G : h.Ns mainGlobals mg)
    (a : PySem.W.nsIn K mainGlobals x = some (some (.ref f))) (l : K.lookup f = some ⟨oc, od, .func (PySem.W.fnOf x x (defArgs st) (defBody st) (defScope st) .none kV doc pm an cdv ct), osl⟩)
    (c : PySem.W.codeIn K cdv x = true) (k : PySem.W.keepIn K (.ref f) = true)
    (hb : ∀ (kV doc pm : Value) (an : Option Addr) (cdv ct : Value) (us : List Value), us.length = ps.length → bindArgs (PySem.W.fnOf x x (defArgs st) (defBody st) (defScope st) .none kV doc pm an cdv ct) ⟨us, []⟩ = pure (ps.zip us)) : At K mg x ps st := by
  have F := fun_mk (st := st) l c k
  exact ⟨f, _, F, PySem.W.mg_of X G a, F.binds hb⟩
end
theorem hu90 {A : Around} {k : Nat} (hr : Room k A) : A.units + 90 < cLine := by have := hr.un; omega
theorem takes0' {X : Cx} {B : Base} (hx : X.xe = fun _ _ => False := by rfl) : Takes X (liftW X.K ⟨X.nm, B.ρ⟩ B WF) := takes_wf (fun e s => by rw [hx])
end
end Mi
end
set_option Elab.async false
set_option linter.all false
set_option autoImplicit false
set_option maxRecDepth 100000
noncomputable section
namespace Mi
open PySem PySem.Spec PyProof.Rows L2
def spLaw (K : PySem.W.Frag) : Sp := fun vs H Q _ => ∃ (a : Addr) (ns : List Int), vs = [.ref a] ∧ SqL K H a (ns.map V.int) ∧ ∀ H', Q (.bl true) H'
theorem rds_ints {K : PySem.W.Frag} {mg : Ctx} {μ : List Addr} {H : Hp} : ∀ ns : List Int, RDs K mg μ H (ns.map V.int) (ns.map D.int)
  | [] => .nil
  | n :: ns => .cons (.int n) (rds_ints ns)
theorem law_imp {P : Program} {w : World} {K : PySem.W.Frag} {mg : Str → Option Value} {base : Heap} {k : Nat} {f : Addr} {fd : FuncData} {ps : List Str} {m : Fn} (hm : ∀ ns : List Int, m [.rol (ns.map .int)] [] = some (.ok (.bl true) []))
    (F : FnOk P w K mg base (L2.CX P w) k f fd ps (spF K mg w 1 m)) : FnOk P w K mg base (L2.CX P w) k f fd ps (spLaw K) := by
  refine F.imp fun vs H Q E h => ?_
  obtain ⟨a, ns, rfl, hS, q⟩ := h
  refine ⟨rfl, [], [], [], [.rol (ns.map .int)], ⟨rfl, .nil, .nil, (fun _ h => nomatch h), (fun l a o h _ => nomatch h)⟩, .cons (.rol ?_ (rds_ints ns)) .nil, _, hm ns, fun μ' H' v _ _ r => ?_⟩
  · rcases hS with h | h
    · exact .inl ⟨(fun z => nomatch z), (fun z => nomatch z), h⟩
    · exact .inr h
  · cases r
    exact q H'
theorem okl {P : Program} {w : World} {K : PySem.W.Frag} {mg : Str → Option Value} {base : Heap} {x : Str} {st : Stmt} {N ps : List Str} {k : Nat} {fa : Addr} {fd : FuncData} (h1 : Fun K x x st fa fd) (Sc : FnScope N ps (defScope st)) {b : S}
    (hb : ∀ (f : Addr) (cdv : Value) (A : Around) (outer : List PySem.Env) (s : Shared) (H : Hp) (E : XK) (B : Base) (W : Wish), Room k (A.deeper (envOfC x (defScope st) s.heap.objs.size f cdv)) →
      Takes (cxOf (L2.CX P w) P w K mg base N x (defScope st) f cdv A outer s H E) (liftW K ⟨⟨mg, w⟩, B.ρ⟩ B W) → CSs (cxOf (L2.CX P w) P w K mg base N x (defScope st) f cdv A outer s H E) B W (defBody st) b) :
    FnOk P w K mg base (L2.CX P w) (k + 1) fa fd ps (spF K mg w ps.length fun ds => scp (runB N.length b ds)) := fn_scp (fn_ok h1 Sc (hb fa))
theorem cx_false {P : Program} {w : World} {H : Hp} {s : Shared} {e : Value} {s' : Shared} (h : L2.CX P w [] H s (fun _ _ _ => False) e s') : False := by
  obtain ⟨_, _, _, h⟩ := h
  simp_all
end Mi
end
set_option Elab.async false
set_option linter.all false
set_option autoImplicit false
set_option maxRecDepth 100000
set_option maxHeartbeats 2000000
/-! Mi: own exceptions without arguments: raised, caught by name. -/
namespace L2
open PySem PySem.Spec PyProof.Rows
section
variable {X : Cx} {pos : Pos}
/-- X(), X an own exception class without own __init__ -/
theorem pmk_own0 {C : Addr} {bmB : List Value} {B newId initId : String} {x : Str} {p : Pos} (F : ExcBaseFacts B newId initId bmB) (q : PySem.W.excIn X.K C bmB newId = true) (gC : X.mg x = some (.ref C))
    (kC : PySem.W.keepIn X.K (.ref C) = true) (r : Raises X (.ref C)) (hg : Gl X x) (hdb : (x == ("__debug__" : Str)) = false := by decide) :
    PMk X (.Call (.Name x p) [] [] pos) (fun _ H Q => Q (.ref C) none H) := by
  intro pins s σ H Q I h
  refine wpAny_Call_Name_kw (ld_glob I hg gC ?_ hdb)
  refine PySem.W.callWith_K0 I.kIn kC ?_
  obtain ⟨bm, N, nm, qn, bs, hdct, sn, sub, ab, col, dd, k0, k1, k2, k3, k5, mN, hC, hN, hni, T⟩ := exc_obj I.kIn q
  refine wpAny_call_exc_subT F T hC hN hni (fun h' e hm => ?_) (Nat.zero_le _)
  exact mk_of I hm r h (I.hok.gone hm.new)
end
end L2
noncomputable section
namespace Mi
open PySem PySem.Spec PyProof.Rows L2
/-- an own class of errors over ValueError -/
abbrev VE : List Value := [.type "ValueError", .type "Exception", .type "BaseException", .type "object"]
structure OwnE (K : PySem.W.Frag) (mg : Str → Option Value) (x : Str) : Prop where
  is : ∃ C, mg x = some (.ref C) ∧ PySem.W.keepIn K (.ref C) = true ∧ PySem.W.excIn K C VE "ValueError.__new__" = true ∧ PySem.W.subIn K (.ref C) (.type "BaseException") = some true ∧ PySem.W.typeIn K (.ref C) = some (.type "type")
section
variable {X : Cx} {B : Base} {W : Wish} {pos pos' p : Pos}
theorem cs_raise {x : Str} (hc : X.calm = true) (tk : Takes X (liftW X.K ⟨X.nm, B.ρ⟩ B W)) (T : OwnE X.K X.mg x) (hg : Gl X x) (hdb : (x == ("__debug__" : Str)) = false := by decide) : CS X B W (.Raise (some (.Call (.Name x p) [] [] pos)) none pos') (sRaise x) := by
  obtain ⟨C, gC, kC, q, h1, h2⟩ := T.is
  refine PS.imp (ps_raise hc tk (pmk_own0 PySem.F.excBase_ValueError q gC kC (raises_own h1 h2) hg hdb)) ?_
  rintro D σ H ⟨μ, st, env, n, r, h, hq⟩
  cases h
  exact ⟨μ, st, env, ⟨x, none⟩, n, ⟨C, gC, rfl, trivial⟩, hq⟩
/-- what a raised class is to a clause's class: the text's own table -/
def SubOk (K : PySem.W.Frag) (mg : Str → Option Value) (sub : Str → Str → Option Bool) : Prop := ∀ x h b C D, sub x h = some b → mg x = some (.ref C) → mg h = some (.ref D) → PySem.W.exmOne K (.ref C) (.ref D) = some b
/-- a suite of a clause that raises nothing itself -/
def noEx : Option RS → Option RS
  | some (.ex _ _ _) => none
  | r => r
def sHands (sub : Str → Str → Option Bool) (x : Exn) : List (Str × S) → S
  | [] => fun σ st => some (.ex x σ st)
  | (h, s) :: r => fun σ st => match sub x.name h with
    | some true => noEx (s σ st)
    | some false => sHands sub x r σ st
    | none => none
/-- try: b, except h: s, .. (no «as») -/
def sTry (sub : Str → Str → Option Bool) (b : S) (hs : List (Str × S)) : S := fun σ st => match b σ st with
  | some (.ex x σ1 st1) => sHands sub x hs σ1 st1
  | r => r
inductive CHs (X : Cx) : List ExceptHandler → List (Str × S) → Prop
  | nil : CHs X [] []
  | cons {h : Str} {C : Addr} {s : S} {b₀ : Stmt} {suite : List Stmt} {np pos' : Pos} {hds : List ExceptHandler} {l : List (Str × S)} (hg : Gl X h) (hdb : (h == ("__debug__" : Str)) = false) (hm : X.mg h = some (.ref C))
      (hsu : ∀ (a : Addr) (pn : List (Addr × Obj)) (B : Base), CSs (X.suite a pn) B WF (b₀ :: suite) s) (r : CHs X hds l) :
      CHs X (.ExceptHandler (some (.Name h np)) none (b₀ :: suite) pos' :: hds) ((h, s) :: l)
/-- the suite's meaning, at whatever base -/
def tAt (K : PySem.W.Frag) (g : Names) (s : S) : TS := fun D σ H => ∃ (B : Base), tMS K ⟨g, B.ρ⟩ B WF s D σ H
theorem chs_ok {sub : Str → Str → Option Bool} (hs : SubOk X.K X.mg sub) : ∀ {hds : List ExceptHandler} {l : List (Str × S)}, CHs X hds l → ∃ l', HdsOk X hds l' ∧ ∀ (B : Base) (W : Wish) (x : Exn) (cls : Value) (d : Option Addr) (D : Ends) (μ : List Addr) (st : Store) (H : Hp) (σ : L2.St) (env : Env) (r : RS),
    Now X.K ⟨X.nm, B.ρ⟩ B μ st H σ env → ExR X.K ⟨X.nm, B.ρ⟩ μ H x cls d → sHands sub x l env st = some r → ResS X.K ⟨X.nm, B.ρ⟩ W μ H r D → wMany X.K (liftW X.K ⟨X.nm, B.ρ⟩ B W) D l' cls d σ H
  | _, _, .nil => ⟨[], .nil, fun B W x cls d D μ st H σ env r n ex h hq => by
    cases h
    exact ⟨μ, st, env, x, n, ex, hq⟩⟩
  | _, _, .cons (h := h) (C := C) (s := s) hg hdb hm hsu r => by
    obtain ⟨l', h1, h2⟩ := chs_ok hs r
    refine ⟨(.ref C, fun _ _ _ => tAt X.K X.nm s) :: l', .cons ⟨hg, hdb, .inl hm⟩ (fun a oe cls d pn _ _ => ⟨fun pins s σ H D I ⟨B, hw⟩ => (hsu a ((a, oe) :: pn) B).run pins s σ H D I hw⟩) h1, fun B W x cls d D μ st H σ env r n ex he hq => ?_⟩
    obtain ⟨C1, g1, rfl, _⟩ := id ex
    unfold sHands at he
    split at he
    · rename_i e
      refine ⟨true, hs _ _ _ _ _ e g1 hm, fun _ a _ => ⟨B, μ, st, env, n, r, ?_, ?_⟩, fun z => Bool.noConfusion z⟩
      · unfold noEx at he
        split at he
        · cases he
        · exact he
      · cases r with
        | ex x env1 st1 =>
          unfold noEx at he
          split at he
          · cases he
          · rename_i hne
            exact absurd he (hne _ _ _)
        | nx env1 st1 => exact hq
        | rt d st1 => exact hq
        | bk env1 st1 => exact hq
        | ct env1 st1 => exact hq
    · rename_i e
      exact ⟨false, hs _ _ _ _ _ e g1 hm, fun z => Bool.noConfusion z, fun _ => h2 B W x _ d D μ st H σ env r n ex he hq⟩
    · cases he
theorem cs_try {sub : Str → Str → Option Bool} {body : List Stmt} {h₀ : ExceptHandler} {hds : List ExceptHandler} {l : List (Str × S)} {b : S} (hst : X.stack = X.env :: X.outer) (hf : X.env.frame = some X.env.locals) (tk : Takes X (liftW X.K ⟨X.nm, B.ρ⟩ B W)) (hs : SubOk X.K X.mg sub)
    (hb : ∀ (B : Base) (W : Wish) (pn : List (Addr × Obj)) (xe : Value → Shared → Prop), Takes (X.tr pn xe) (liftW X.K ⟨X.nm, B.ρ⟩ B W) → CSs (X.tr pn xe) B W body b) (hh : CHs X (h₀ :: hds) l) : CS X B W (.Try body (h₀ :: hds) [] [] pos) (sTry sub b l) := by
  obtain ⟨l', h1, h2⟩ := chs_ok hs hh
  refine PS.imp (ps_try_many (tb := fun W0 D σ H => ∃ (B' : Base) (W' : Wish), (∀ c d σ H, liftW X.K ⟨X.nm, B'.ρ⟩ B' W' c d σ H → W0 c d σ H) ∧ tMS X.K ⟨X.nm, B'.ρ⟩ B' W' b D σ H) hst hf tk (fun W0 pn xe tk0 _ => ⟨fun pins s σ H D I ⟨B', W', hW, h⟩ => (hb B' W' pn xe (Takes.imp tk0 hW)).run pins s σ H D I h⟩) h1) ?_
  rintro D σ H ⟨μ, st, env, n, r, h, hq⟩
  unfold sTry at h
  refine ⟨⟨μ, B.ρ, H⟩, fun x env1 st1 => sHands sub x l env1 st1 = some r, ?_, ?_⟩
  · rintro c d σ1 H1 ⟨μ1, st1, env1, x, n1, ex, he⟩
    have s1 : Step μ H μ1 H1 := n1.step
    exact h2 B W x c d D μ1 st1 H1 σ1 env1 r ⟨n.step.trans n.rel s1, n1.rel, n1.env⟩ ex he (hq.later n1.rel s1)
  · refine ⟨μ, st, env, ⟨Step.refl _ _, n.rel, n.env⟩, ?_⟩
    cases e : b env st with
    | none => rw [e] at h; cases h
    | some r0 =>
      rw [e] at h
      refine ⟨r0, rfl, ?_⟩
      cases r0 with
      | ex x env1 st1 => exact h
      | nx env1 st1 => cases h; exact hq
      | rt d st1 => cases h; exact hq
      | bk env1 st1 => cases h; exact hq
      | ct env1 st1 => cases h; exact hq
end
end Mi
namespace Mi
open PySem PySem.Spec PyProof.Rows L2
theorem chs_own {X : Cx} {h : Str} {s : S} {b₀ : Stmt} {suite : List Stmt} {np pos' : Pos} {hds : List ExceptHandler} {l : List (Str × S)} (hg : Gl X h) (hdb : (h == ("__debug__" : Str)) = false) (T : OwnE X.K X.mg h)
    (hsu : ∀ (a : Addr) (pn : List (Addr × Obj)) (B : Base), CSs (X.suite a pn) B WF (b₀ :: suite) s) (r : CHs X hds l) : CHs X (.ExceptHandler (some (.Name h np)) none (b₀ :: suite) pos' :: hds) ((h, s) :: l) := by
  obtain ⟨C, gC, _⟩ := T.is
  exact .cons hg hdb gC hsu r
/-- the table of what is under what -/
def subOf : List (Str × Str × Bool) → Str → Str → Option Bool
  | [], _, _ => none
  | (a, b, k) :: r, x, h => if a == x && b == h then some k else subOf r x h
theorem sub_nil {K : PySem.W.Frag} {mg : Str → Option Value} : SubOk K mg (subOf []) := fun _ _ _ _ _ h => nomatch h
theorem sub_cons {K : PySem.W.Frag} {mg : Str → Option Value} {a b : Str} {k : Bool} {r : List (Str × Str × Bool)} {C D : Addr} (g1 : mg a = some (.ref C)) (g2 : mg b = some (.ref D)) (e : PySem.W.exmOne K (.ref C) (.ref D) = some k) (hr : SubOk K mg (subOf r)) : SubOk K mg (subOf ((a, b, k) :: r)) := by
  intro x h b' C' D' hs h1 h2
  unfold subOf at hs
  split at hs
  · rename_i q
    rw [Bool.and_eq_true] at q
    have e1 : a = x := eq_of_beq q.1
    have e2 : b = h := eq_of_beq q.2
    subst e1; subst e2
    cases hs
    cases g1.symm.trans h1
    cases g2.symm.trans h2
    exact e
  · exact hr _ _ _ _ _ hs h1 h2
theorem own_mk {K : PySem.W.Frag} {mg : Str → Option Value} {x : Str} {C : Addr} (g : mg x = some (.ref C)) (k : PySem.W.keepIn K (.ref C) = true) (q : PySem.W.excIn K C VE "ValueError.__new__" = true) (b : PySem.W.subIn K (.ref C) (.type "BaseException") = some true) (t : PySem.W.typeIn K (.ref C) = some (.type "type")) : OwnE K mg x := ⟨C, g, k, q, b, t⟩
end Mi
end
set_option Elab.async false
set_option linter.all false
set_option autoImplicit false
set_option maxRecDepth 100000
set_option maxHeartbeats 2000000
/-! Mi: sum, max, min of a list of whole numbers, pop. -/
noncomputable section
namespace Mi
open PySem PySem.Spec PyProof.Rows L2
def intsOf : List D → Option (List Int)
  | [] => some []
  | .int i :: ds => (match intsOf ds with | some xs => some (i :: xs) | none => none)
  | _ :: _ => none
theorem intsOf_vs {K : PySem.W.Frag} {mg : Ctx} {μ : List Addr} {H : Hp} : ∀ {vs : List V} {ds : List D} {ns : List Int}, RDs K mg μ H vs ds → intsOf ds = some ns → vs = ns.map V.int
  | _, _, _, .nil, h => by cases h; rfl
  | _, _, _, .cons (d := d) (ds := ds) r rs, h => by
    cases d <;> simp only [intsOf] at h <;> try (cases h; done)
    split at h
    · rename_i xs e
      cases h
      cases r
      rw [intsOf_vs rs e]; rfl
    · cases h
def gSum (st : Store) (x : D) : Option D := match lstOf st x with
  | some ds => (match intsOf ds with | some ns => some (.int ns.sum) | none => none)
  | none => none
def gMax (st : Store) (x : D) : Option D := match lstOf st x with
  | some ds => (match intsOf ds with | some ns => (match ns.max? with | some m => some (.int m) | none => none) | none => none)
  | none => none
def gMin (st : Store) (x : D) : Option D := match lstOf st x with
  | some ds => (match intsOf ds with | some ns => (match ns.min? with | some m => some (.int m) | none => none) | none => none)
  | none => none
section
variable {X : Cx}
theorem cs_sum (hc : X.calm = true) : CallS X (.builtin "sum") gSum := by
  refine ⟨_, cr_sum hc, ?_⟩
  intro ρ μ st H v x d Q R rv h q
  unfold gSum at h
  split at h
  · rename_i ds e
    split at h
    · rename_i ns e2
      cases h
      obtain ⟨a, vs, rfl, hl, r⟩ := lst_of R rv e
      cases intsOf_vs r e2
      exact ⟨a, ns, rfl, SqL.of hl, q _ _ (Step.refl _ _) R (.int _)⟩
    · cases h
  · cases h
theorem cs_max (hc : X.calm = true) : CallS X (.builtin "max") gMax := by
  refine ⟨_, cr_max hc, ?_⟩
  intro ρ μ st H v x d Q R rv h q
  unfold gMax at h
  split at h
  · rename_i ds e
    split at h
    · rename_i ns e2
      split at h
      · rename_i m e3
        cases h
        obtain ⟨a, vs, rfl, hl, r⟩ := lst_of R rv e
        cases intsOf_vs r e2
        have hm := List.max?_eq_some_iff.mp e3
        refine ⟨a, ns, rfl, SqL.of hl, List.length_pos_of_mem hm.1, fun m' h1 h2 => ?_⟩
        have : m' = m := Int.le_antisymm (hm.2 m' h1) (h2 m hm.1)
        rw [this]
        exact q _ _ (Step.refl _ _) R (.int _)
      · cases h
    · cases h
  · cases h
theorem cs_min (hc : X.calm = true) : CallS X (.builtin "min") gMin := by
  refine ⟨_, cr_min hc, ?_⟩
  intro ρ μ st H v x d Q R rv h q
  unfold gMin at h
  split at h
  · rename_i ds e
    split at h
    · rename_i ns e2
      split at h
      · rename_i m e3
        cases h
        obtain ⟨a, vs, rfl, hl, r⟩ := lst_of R rv e
        cases intsOf_vs r e2
        have hm := List.min?_eq_some_iff.mp e3
        refine ⟨a, ns, rfl, SqL.of hl, List.length_pos_of_mem hm.1, fun m' h1 h2 => ?_⟩
        have : m' = m := Int.le_antisymm (h2 m hm.1) (hm.2 m' h1)
        rw [this]
        exact q _ _ (Step.refl _ _) R (.int _)
      · cases h
    · cases h
  · cases h
end
end Mi
namespace Mi
open PySem PySem.Spec PyProof.Rows L2
def ePopAt (o i : E) : E := fun σ => bnd (bnd (eLoc o σ) fun l => bnd (i σ) fun d => ret (l, d)) fun p st => match p.2 with
  | .int k => if small62 k then (match st[p.1]? with
    | some (.lst ds) => (match L2.ixN ds.length k with
      | some j => (match ds[j]? with
        | some d => some (.ok d (st.set p.1 (.lst (ds.eraseIdx j))))
        | none => none)
      | none => none)
    | _ => none) else none
  | _ => none
theorem RDs.erase {K : PySem.W.Frag} {mg : Ctx} {μ : List Addr} {H : Hp} : ∀ {vs : List V} {ds : List D} (_ : RDs K mg μ H vs ds) (j : Nat), RDs K mg μ H (vs.eraseIdx j) (ds.eraseIdx j)
  | _, _, .nil, j => .nil
  | _, _, .cons r rs, 0 => rs
  | _, _, .cons r rs, j + 1 => .cons r (rs.erase j)
theorem RDs.at' {K : PySem.W.Frag} {mg : Ctx} {μ : List Addr} {H : Hp} : ∀ {vs : List V} {ds : List D} (_ : RDs K mg μ H vs ds) (j : Nat) {d : D}, ds[j]? = some d → ∃ v, vs[j]? = some v ∧ RD K mg μ H v d
  | _, _, .nil, j, _, h => nomatch h
  | _, _, .cons r rs, 0, _, h => by cases h; exact ⟨_, rfl, r⟩
  | _, _, .cons r rs, j + 1, _, h => rs.at' j h
section
variable {X : Cx} {B : Base} {W : Wish} {o i : Expr} {mo mi : E} {pos : Pos}
theorem ce_popAt {apos : Pos} (ho : CE X B W o mo) (hi : CE X B W i mi) (hbase : attributeBase o "pop" X.env (eval o X.env) = eval o X.env := by rfl) (hline : (apos.endLine == pos.line) = true := by rfl)
    (hfew : ((backTo pos (starEach (i :: []) X.env)).all (fun x => !x.1) && (backToKw pos (keywordEach [] X.env)).all (fun x => x.1.isSome)
      && decide ((i :: []).length + ([] : List Keyword).length + (if ([] : List Keyword).isEmpty then 0 else 1) < 30)) = true := by rfl)
    (he1 : starEach (i :: []) X.env = (false, eval i X.env) :: starEach [] X.env := by rfl) (hpl : (backTo pos (starEach [] X.env)).any (·.1) = false := by rfl) :
    CE X B W (.Call (.Attribute o "pop" apos) [i] [] pos) (ePopAt mo mi) := by
  refine PE.imp (pe_bm PySem.F.plainAttrs_list PySem.F.slot_list_pop PySem.F.type_list_pop mt_popAt ho (pa_cons hi pa_nil he1) hbase hfew hline he1 hpl) ?_
  rintro σ H Q ⟨μ, st, env, n, r, h, hq⟩
  unfold ePopAt at h
  rcases bnd_inv h with ⟨p, st1, e1, h1⟩ | ⟨x, st1, e1, rfl⟩
  · refine loc_first (W := W) n e1 (fun x st1 z => nomatch z) fun l a ds st2 μ1 H1 h2 s1 n1 ha hl => ?_
    refine ⟨tyV_list n1.rel (.loc ha) hl, ?_⟩
    refine first n1 h2 (fun x st1 z => nomatch z) fun d st3 μ2 H2 v h3 s2 n2 r2 => ?_
    cases ret_inv h3
    dsimp only at h1
    split at h1
    · rename_i k
      cases r2
      split at h1
      · rename_i hk
        split at h1
        · rename_i ds2 hl2
          split at h1
          · rename_i j hj
            split at h1
            · rename_i y hy
              cases h1
              have ha2 := s2.idx ha
              obtain ⟨vs, q1, q2⟩ := n2.rel.obj _ _ _ ha2 hl2
              obtain ⟨u, hu, ru⟩ := q2.at' j hy
              have hq1 := ixN_seq hj
              rw [small62_eq] at hk
              rw [Bool.and_eq_true] at hk
              have hk1 := of_decide_eq_true hk.1
              have hk2 := of_decide_eq_true hk.2
              refine ⟨a, vs, k, j, u, rfl, rfl, q1, by omega, by omega, by rw [q2.length]; exact hq1.1, hu, ?_⟩
              have s3 : Step μ2 H2 μ2 (upd H2 a (.lst (vs.eraseIdx j))) := Step.put ha2
              have R3 := n2.rel.put ha2 (q2.erase j)
              exact hq _ _ _ ((s1.trans n1.rel s2).trans n2.rel s3) R3 (RD.step n2.rel s3 ru)
            · cases h1
          · cases h1
        · cases h1
      · cases h1
    · cases h1
  · refine loc_first (W := W) n e1 (fun x' st1' z => by cases z; exact hq) fun l a ds st2 μ1 H1 h2 s1 n1 ha hl => ?_
    refine ⟨tyV_list n1.rel (.loc ha) hl, ?_⟩
    refine first n1 h2 (fun x' st1' z => by cases z; exact hq) fun d st3 μ2 H2 v h3 s2 n2 r2 => ?_
    cases ret_inv h3
end
end Mi
namespace Mi
open PySem PySem.Spec PyProof.Rows L2
/-- x, y = a, b : two local names -/
def sPar (i j : Nat) (es : EL) : S := fun σ => sBnd (es σ) σ fun ds st => match ds with
  | [x, y] => some (.nx ((σ.set i (some x)).set j (some y)) st)
  | _ => none
section
variable {X : Cx} {B : Base} {W : Wish}
theorem cs_par {i j : Nat} {x y : Str} {a b : Expr} {mr : EL} {px py pt : Pos} {kt k2 pt2} {pos : Pos} (hc : X.calm = true) (hN : X.N.Nodup) (hi : X.N[i]? = some x) (hj : X.N[j]? = some y) (hij : i ≠ j)
    (hx : X.env.scope.names.lookup x = some .local) (hy : X.env.scope.names.lookup y = some .local) (ha : CA X B W [a, b] mr)
    (hw : swappedStores [.Tuple [.Name x px, .Name y py] kt pt] (.Tuple [a, b] k2 pt2) X.env = pure (some [x, y]) := by rfl)
    (hs : swapsWithSole [.Tuple [.Name x px, .Name y py] kt pt] (.Tuple [a, b] k2 pt2) pos.line X.env = pure false := by rfl) :
    CS X B W (.Assign [.Tuple [.Name x px, .Name y py] kt pt] (.Tuple [a, b] k2 pt2) pos) (sPar i j mr) := by
  refine PS.imp (ps_par hc hN hi hj hij hx hy ha hw hs) ?_
  rintro D σ H ⟨μ, st, env, n, r, h, hq⟩
  unfold sPar at h
  rcases sBnd_inv h with ⟨ds, st1, e1, h1⟩ | ⟨x, st1, e1, rfl⟩
  · refine ⟨μ, st, env, n, _, e1, fun μ1 H1 vs s1 R1 rs => ?_⟩
    split at h1
    · cases h1
      cases rs with
      | cons r1 rs =>
        cases rs with
        | cons r2 rs =>
          cases rs
          have n1 := n.next s1 R1
          exact ⟨_, _, rfl, hq _ _ _ s1 R1 ((n1.env.set r1).set r2)⟩
    · cases h1
  · exact ⟨μ, st, env, n, _, e1, hq⟩
end
end Mi
namespace Mi
open PySem PySem.Spec PyProof.Rows L2
def rgOk (i j : Int) : Bool := shut (small62 i && small62 j && decide ((j - i).toNat ≤ 16777216))
theorem rgOk_eq (i j : Int) : rgOk i j = (small62 i && small62 j && decide ((j - i).toNat ≤ 16777216)) := shut_eq _
/-- list(range(a)), list(range(a, b)) -/
def lRange (a : E) : EL := fun σ => bnd (a σ) fun x => need (match x with | .int j => if rgOk 0 j then some (rangeD 0 j) else none | _ => none)
def lRange2 (a b : E) : EL := fun σ => bnd (a σ) fun x => bnd (b σ) fun y => need (match x, y with | .int i, .int j => if rgOk i j then some (rangeD i j) else none | _, _ => none)
theorem rgOk_of {i j : Int} (h : rgOk i j = true) : RgOk i j := by
  simp only [rgOk_eq, small62_eq, Bool.and_eq_true, decide_eq_true_eq] at h
  exact ⟨h.1.1.1, h.1.1.2, h.1.2.1, h.1.2.2, by omega⟩
theorem rds_rg {K : PySem.W.Frag} {mg : Ctx} {μ : List Addr} {H : Hp} (i j : Int) : RDs K mg μ H (rgV i j) (rangeD i j) := by
  unfold rgV rangeD
  generalize List.range (j - i).toNat = l
  induction l with
  | nil => exact .nil
  | cons x l ih => exact .cons (.int _) ih
section
variable {X : Cx} {B : Base} {W : Wish} {a b : Expr} {ma mb : E} {pos p p2 : Pos} {pos2 : Pos}
theorem cl_range (hc : X.calm = true) (hgl : Gl X "list") (hml : X.mg "list" = none) (hg : Gl X "range") (hm : X.mg "range" = none) (ha : CE X B W a ma) (na : starEach [a] X.env = (false, eval a X.env) :: starEach [] X.env := by rfl)
    (na2 : starEach [.Call (.Name "range" p) [a] [] pos] X.env = (false, eval (.Call (.Name "range" p) [a] [] pos) X.env) :: starEach [] X.env := by rfl) : CL X B W (.Call (.Name "list" p2) [.Call (.Name "range" p) [a] [] pos] [] pos2) (lRange ma) := by
  refine PE.imp (pe_listRg hc hgl hml (prg_1 hg hm ha na) na2) ?_
  rintro σ H Q ⟨μ, st, env, n, r, h, hq⟩
  refine first n h (resL_ex hq) fun d st1 μ1 H1 v h1 s1 n1 r1 => ?_
  obtain ⟨ds, e, rfl⟩ := need_inv h1
  cases d <;> simp only at e <;> try (cases e; done)
  split at e
  · rename_i j hz
    cases e
    cases r1
    refine ⟨_, rfl, rgOk_of hz, fun q hl => ?_⟩
    obtain ⟨a1, a2, a3, a4, a5⟩ := laid_list n.rel s1 n1.rel (rds_rg 0 j) hl
    exact hq _ _ _ _ a1 a2 a3 a4 a5
  · cases e
theorem cl_range2 (hc : X.calm = true) (hgl : Gl X "list") (hml : X.mg "list" = none) (hg : Gl X "range") (hm : X.mg "range" = none) (ha : CE X B W a ma) (hb : CE X B W b mb) (na : starEach [a, b] X.env = (false, eval a X.env) :: starEach [b] X.env := by rfl) (nb : starEach [b] X.env = (false, eval b X.env) :: starEach [] X.env := by rfl) (hp : (backTo pos (starEach [b] X.env)).any (·.1) = false := by rfl)
    (na2 : starEach [.Call (.Name "range" p) [a, b] [] pos] X.env = (false, eval (.Call (.Name "range" p) [a, b] [] pos) X.env) :: starEach [] X.env := by rfl) : CL X B W (.Call (.Name "list" p2) [.Call (.Name "range" p) [a, b] [] pos] [] pos2) (lRange2 ma mb) := by
  refine PE.imp (pe_listRg hc hgl hml (prg_2 hg hm ha hb na nb hp) na2) ?_
  rintro σ H Q ⟨μ, st, env, n, r, h, hq⟩
  refine first n h (resL_ex hq) fun d st1 μ1 H1 v h1 s1 n1 r1 => ?_
  refine first n1 h1 (resL_ex hq) fun d' st2 μ2 H2 v' h2 s2 n2 r2 => ?_
  obtain ⟨ds, e, rfl⟩ := need_inv h2
  cases d <;> cases d' <;> simp only at e <;> try (cases e; done)
  split at e
  · rename_i i j hz
    cases e
    cases r1
    cases r2
    refine ⟨_, _, rfl, rfl, rgOk_of hz, fun q hl => ?_⟩
    obtain ⟨a1, a2, a3, a4, a5⟩ := laid_list n.rel (s1.trans n1.rel s2) n2.rel (rds_rg i j) hl
    exact hq _ _ _ _ a1 a2 a3 a4 a5
  · cases e
end
end Mi
namespace Mi
open PySem PySem.Spec PyProof.Rows L2
/-- a list, n times -/
def lRep (a b : E) : EL := fun σ => bnd (a σ) fun x => bnd (b σ) fun y => look fun st => match lstOf st x, y with
  | some ds, .int k => if small62 k && okLen (ds.length * k.toNat) then some (List.replicate k.toNat ds).flatten else none
  | _, _ => none
theorem rds_rep {K : PySem.W.Frag} {mg : Ctx} {μ : List Addr} {H : Hp} {vs : List V} {ds : List D} (r : RDs K mg μ H vs ds) : ∀ n : Nat, RDs K mg μ H (List.replicate n vs).flatten (List.replicate n ds).flatten
  | 0 => .nil
  | n + 1 => by
    rw [List.replicate_succ, List.replicate_succ, List.flatten_cons, List.flatten_cons]
    exact r.app (rds_rep r n)
section
variable {X : Cx} {B : Base} {W : Wish} {a b : Expr} {ma mb : E} {pos : Pos}
theorem cl_rep (ha : CE X B W a ma) (hb : CE X B W b mb) : CL X B W (.BinOp a .Mult b pos) (lRep ma mb) := by
  refine PE.imp (pe_op op_rep ha hb) ?_
  rintro σ H Q ⟨μ, st, env, n, r, h, hq⟩
  refine first n h (resL_ex hq) fun d st1 μ1 H1 v h1 s1 n1 r1 => ?_
  refine first n1 h1 (resL_ex hq) fun d' st2 μ2 H2 v' h2 s2 n2 r2 => ?_
  obtain ⟨es, e2, rfl⟩ := look_inv h2
  split at e2
  · rename_i ds k e3
    cases r2
    split at e2
    · rename_i hz
      cases e2
      obtain ⟨a, vs, rfl, hl, rds⟩ := lst_of n2.rel (r1.step n1.rel s2) e3
      simp only [small62_eq, Bool.and_eq_true, decide_eq_true_eq] at hz
      have hlen : ds.length * k.toNat ≤ 16777216 := of_decide_eq_true ((okLen_eq _).symm.trans hz.2)
      refine ⟨a, k, vs, rfl, rfl, hl, by omega, by omega, by rw [rds.length, sizeLine_eq]; exact hlen, fun p hp => ?_⟩
      obtain ⟨a1, a2, a3, a4, a5⟩ := laid_list n.rel (s1.trans n1.rel s2) n2.rel (rds_rep rds k.toNat) hp
      exact hq _ _ _ _ a1 a2 a3 a4 a5
    · cases e2
  · cases e2
end
end Mi
end
set_option Elab.async false
set_option linter.all false
set_option autoImplicit false
set_option maxRecDepth 100000
set_option maxHeartbeats 2000000
/-! Mi: remove. -/
noncomputable section
namespace Mi
open PySem PySem.Spec PyProof.Rows L2
/-- x.remove(e), x a list of whole numbers of the store -/
def sRem (o e : E) : S := fun σ => sBnd (bnd (eLoc o σ) fun l => bnd (e σ) fun d => ret (l, d)) σ fun p st => match p.2 with
  | .int k => (match st[p.1]? with
    | some (.lst ds) => (match intsOf ds with
      | some ns => if k ∈ ns then some (.nx σ (st.set p.1 (.lst (ds.eraseIdx (ns.idxOf k))))) else none
      | none => none)
    | _ => none)
  | _ => none
theorem idx_first {k : Int} : ∀ {ns : List Int}, k ∈ ns → ns[ns.idxOf k]? = some k ∧ ∀ m : Nat, m < ns.idxOf k → ns[m]? ≠ some k
  | [], h => nomatch h
  | a :: r, h => by
    by_cases e : a = k
    · subst e
      rw [List.idxOf_cons_self]
      exact ⟨rfl, fun m hm => absurd hm (Nat.not_lt_zero _)⟩
    · have hr : k ∈ r := by
        rcases List.mem_cons.mp h with z | z
        · exact absurd z.symm e
        · exact z
      obtain ⟨h1, h2⟩ := idx_first hr
      have hi : (a :: r).idxOf k = r.idxOf k + 1 := by rw [List.idxOf_cons, show (a == k) = false from beq_eq_false_iff_ne.mpr e]; rfl
      rw [hi]
      refine ⟨h1, fun m hm => ?_⟩
      cases m with
      | zero => exact fun z => e (Option.some.inj z)
      | succ m => exact h2 m (Nat.lt_of_succ_lt_succ hm)
section
variable {X : Cx} {B : Base} {W : Wish} {o e : Expr} {mo m : E} {pos : Pos}
theorem cs_rem {apos : Pos} (ho : CE X B W o mo) (he : CE X B W e m) (hbase : attributeBase o "remove" X.env (eval o X.env) = eval o X.env := by rfl) (hline : (apos.endLine == pos.line) = true := by rfl)
    (hfew : ((backTo pos (starEach (e :: []) X.env)).all (fun x => !x.1) && (backToKw pos (keywordEach [] X.env)).all (fun x => x.1.isSome)
      && decide ((e :: []).length + ([] : List Keyword).length + (if ([] : List Keyword).isEmpty then 0 else 1) < 30)) = true := by rfl)
    (he1 : starEach (e :: []) X.env = (false, eval e X.env) :: starEach [] X.env := by rfl) (hpl : (backTo pos (starEach [] X.env)).any (·.1) = false := by rfl) {pos2 : Pos} (hs2 : swapsWith (.Call (.Attribute o "remove" apos) [e] [] pos) none pos2.line X.env = pure false := by rfl) :
    CS X B W (.Expr (.Call (.Attribute o "remove" apos) [e] [] pos) pos2) (sRem mo m) := by
  refine PS.imp (ps_expr (pe_bm PySem.F.plainAttrs_list PySem.F.slot_list_remove PySem.F.type_list_remove mt_remove ho (pa_cons he pa_nil he1) hbase hfew hline he1 hpl) hs2) ?_
  rintro D σ H ⟨μ, st, env, n, r, h, hq⟩
  unfold sRem at h
  rcases sBnd_inv h with ⟨p, st1, e1, h1⟩ | ⟨x, st1, e1, rfl⟩
  · refine loc_first (W := W) n e1 (fun x st1 z => nomatch z) fun l a ds st2 μ1 H1 h2 s1 n1 ha hl => ?_
    refine ⟨tyV_list n1.rel (.loc ha) hl, ?_⟩
    refine first n1 h2 (fun x st1 z => nomatch z) fun d st3 μ2 H2 v h3 s2 n2 r2 => ?_
    cases ret_inv h3
    dsimp only at h1
    split at h1
    · rename_i k
      cases r2
      split at h1
      · rename_i ds2 hl2
        split at h1
        · rename_i ns hns
          split at h1
          · rename_i hk
            cases h1
            have ha2 := s2.idx ha
            obtain ⟨vs, q1, q2⟩ := n2.rel.obj _ _ _ ha2 hl2
            cases intsOf_vs q2 hns
            obtain ⟨i1, i2⟩ := idx_first hk
            refine ⟨a, ns, k, ns.idxOf k, rfl, rfl, q1, i1, i2, ?_⟩
            rw [← erase_mapI]
            have s3 : Step μ2 H2 μ2 (upd H2 a (.lst ((ns.map V.int).eraseIdx (ns.idxOf k)))) := Step.put ha2
            have R3 := n2.rel.put ha2 (q2.erase (ns.idxOf k))
            exact hq _ _ _ ((s1.trans n1.rel s2).trans n2.rel s3) R3 (n2.env.step n2.rel s3)
          · cases h1
        · cases h1
      · cases h1
    · cases h1
  · refine loc_first (W := W) n e1 (fun x' st1' z => by cases z; exact hq) fun l a ds st2 μ1 H1 h2 s1 n1 ha hl => ?_
    refine ⟨tyV_list n1.rel (.loc ha) hl, ?_⟩
    refine first n1 h2 (fun x' st1' z => by cases z; exact hq) fun d st3 μ2 H2 v h3 s2 n2 r2 => ?_
    cases ret_inv h3
end
end Mi
end
set_option Elab.async false
set_option linter.all false
set_option autoImplicit false
set_option maxRecDepth 100000
set_option maxHeartbeats 2000000
/-! Mi: comprehensions with two generators. -/
noncomputable section
namespace Mi
open PySem PySem.Spec PyProof.Rows L2
def compIn (s1 : I) (g1 : G) (t1 : T) (e : E) (vs1 : List Nat) (σ : Env) : M (List D) := bndN (s1 σ) fun src => match src with
  | .fix ds => compFix g1 t1 e (wipe σ vs1) ds
  | .live _ _ => stuck
def comp2 (g : G) (t : T) (inn : Env → M (List D)) (σ : Env) : List D → M (List D)
  | [] => ret []
  | d :: ds => match g d σ with
    | none => stuck
    | some σ1 => bndN (t σ1) fun k => if k then bndN (inn σ1) fun xs => bndN (comp2 g t inn σ ds) fun ys => ret (xs ++ ys) else comp2 g t inn σ ds
def lComp2 (s : I) (g : G) (t : T) (s1 : I) (g1 : G) (t1 : T) (e : E) (vs vs1 : List Nat) : EL := fun σ => bnd (s σ) fun src => match src with
  | .fix ds => bndN (comp2 g t (compIn s1 g1 t1 e vs1) (wipe σ vs) ds) fun xs => if okLen xs.length then ret xs else stuck
  | .live _ _ => stuck

/-! ### what is carried over -/
/-- values, the places of the store and what is not of the store nor reserved go over from (μ, H) to (μ', H') -/
structure Tr (K : PySem.W.Frag) (mg : Ctx) (μ : List Addr) (H : Hp) (μ' : List Addr) (H' : Hp) : Prop where
  rd : ∀ v d, RD K mg μ H v d → RD K mg μ' H' v d
  kp : Kp μ mg.ρ H H'
  out : ∀ a o, H a = some o → a ∉ μ → a ∉ mg.ρ → a ∉ μ'
section
variable {K : PySem.W.Frag} {mg : Ctx} {μ μ' μ'' : List Addr} {H H' H'' : Hp} {st : Store}
theorem Tr.refl : Tr K mg μ H μ H := ⟨fun _ _ h => h, fun _ _ h _ _ => h, fun _ _ _ h _ => h⟩
theorem Tr.trans (a : Tr K mg μ H μ' H') (b : Tr K mg μ' H' μ'' H'') : Tr K mg μ H μ'' H'' :=
  ⟨fun v d h => b.rd v d (a.rd v d h), fun p o h h1 h2 => b.kp p o (a.kp p o h h1 h2) (a.out p o h h1 h2) h2, fun p o h h1 h2 => b.out p o (a.kp p o h h1 h2) (a.out p o h h1 h2) h2⟩
theorem Tr.of_step (R : Rel K mg μ st H) (s : Step μ H μ' H') : Tr K mg μ H μ' H' := ⟨fun _ _ h => h.step R s, s.kp, fun _ _ h h1 _ => s.out h h1⟩
theorem Tr.mutate {D₀ : Addr} {acc : List V} {o : HO} (hD : H D₀ = some (.lst acc)) : Tr K (mg.add D₀) μ H μ (upd H D₀ o) :=
  ⟨fun _ _ h => h.mutate hD (fun _ z => nomatch z), fun a u h _ h2 => by rw [upd_ne (fun z => h2 (by simp [z]))]; exact h, fun _ _ _ h1 _ => h1⟩
theorem Tr.rds (t : Tr K mg μ H μ' H') : ∀ {vs : List V} {ds : List D}, RDs K mg μ H vs ds → RDs K mg μ' H' vs ds
  | _, _, .nil => .nil
  | _, _, .cons h r => .cons (t.rd _ _ h) (Tr.rds t r)
theorem Tr.env (t : Tr K mg μ H μ' H') {σ : L2.St} {env : Env} (e : REnv K mg μ H σ env) : REnv K mg μ' H' σ env :=
  ⟨e.len, fun i d h => let ⟨v, h1, h2⟩ := e.val i d h; ⟨v, h1, t.rd _ _ h2⟩⟩
theorem Tr.its (t : Tr K mg μ H μ' H') : ∀ {ts : List Item} {ds : List D}, ItsR K mg μ H ts ds → ItsR K mg μ' H' ts ds
  | _, _, .nil => .nil
  | _, _, .cons (t := i) h r => .cons (by
      cases i with
      | one v => exact t.rd _ _ h
      | tup vs => obtain ⟨ds, e, r⟩ := h; exact ⟨ds, e, t.rds r⟩) (Tr.its t r)
end
section
variable {K : PySem.W.Frag} {g0 : Names} {ρ : List Addr} {g : G} {t : T} {e : E} {vs dom : List Nat}
theorem turn_ok2 {D₀ : Addr} {μ1 : List Addr} {H1 : Hp} {σ : L2.St} {env : Env} {μ2 : List Addr} {st2 st3 : Store} {H2 H3 : Hp} {acc : List V} {accD : List D} {d : D} {o : Option D} {x : V} {it : Item} {Nx : Hp → Prop}
    (M : Mid K g0 ρ D₀ μ1 H1 (L2.wipe σ vs) (Mi.wipe env vs) μ2 st2 H2 acc accD) (hd : ∀ j ∈ dom, j ∈ vs) (hi : ItR K ⟨g0, D₀ :: ρ⟩ μ2 H2 it d) (hy : Hands H2 it x H3) (T : Turned g t e (Mi.wipe env vs) d st2 o st3) (hz : accD.length + o.toList.length ≤ 16777216)
    (k : ∀ μ4 H4 acc', Mid K g0 ρ D₀ μ1 H1 (L2.wipe σ vs) (Mi.wipe env vs) μ4 st3 H4 acc' (accD ++ o.toList) → Tr K ⟨g0, D₀ :: ρ⟩ μ2 H2 μ4 H4 → Nx H4) :
    tMG K g0 dom g x (L2.wipe σ vs) H3 fun σ2 H4 => L2.wipe σ2 vs = L2.wipe σ vs ∧ tMTx K g0 t σ2 H4 fun b H5 =>
      if b = true then tMx K g0 e σ2 H5 fun y H6 => ∃ acc, H6 D₀ = some (.lst acc) ∧ acc.length < sizeLine ∧ Nx (upd H6 D₀ (.lst (acc ++ [y]))) else Nx H5 := by
  obtain ⟨s3, R3, rd⟩ := hands_rd M.rel hi hy
  have hD3 : H3 D₀ = some (.lst acc) := s3.keep _ _ M.at_ (M.rel.res D₀ List.mem_cons_self).1
  have e3 := M.env.step M.rel s3
  have done : ∀ {μ5 : List Addr} {st5 : Store} {H5 : Hp}, Step μ2 H3 μ5 H5 → Rel K ⟨g0, D₀ :: ρ⟩ μ5 st5 H5 → H5 D₀ = some (.lst acc) ∧ D₀ ∉ μ5 := fun s R =>
    ⟨s.keep _ _ hD3 (R3.res D₀ List.mem_cons_self).1, (R.res D₀ List.mem_cons_self).1⟩
  cases T with
  | @no σ1 _ hg ht =>
    refine ⟨D₀ :: ρ, μ2, st2, _, d, σ1, R3, e3, rd, hg, fun σ2 e4 hl hj => ⟨wipe_same hd hl hj, ?_⟩⟩
    refine ⟨⟨μ2, D₀ :: ρ, H3⟩, μ2, st2, σ1, ⟨Step.refl _ _, R3, e4⟩, _, ht, fun μ5 H5 s5 R5 => ?_⟩
    dsimp only
    rw [if_neg Bool.false_ne_true]
    obtain ⟨h5, _⟩ := done s5 R5
    refine k μ5 H5 acc ⟨M.new, (M.step.trans M.rel s3).trans R3 s5, R5, h5, ?_, (e3.step R3 s5)⟩ (Tr.of_step M.rel (s3.trans R3 s5))
    simp only [Option.toList, List.append_nil]
    exact (M.rds.step M.rel s3).step R3 s5
  | @yes σ1 st4 _ y hg ht he =>
    refine ⟨D₀ :: ρ, μ2, st2, _, d, σ1, R3, e3, rd, hg, fun σ2 e4 hl hj => ⟨wipe_same hd hl hj, ?_⟩⟩
    refine ⟨⟨μ2, D₀ :: ρ, H3⟩, μ2, st2, σ1, ⟨Step.refl _ _, R3, e4⟩, _, ht, fun μ5 H5 s5 R5 => ?_⟩
    dsimp only
    rw [if_pos rfl]
    refine ⟨⟨μ5, D₀ :: ρ, H5⟩, μ5, st4, σ1, ⟨Step.refl _ _, R5, e4.step R3 s5⟩, _, he, fun μ6 H6 v s6 R6 rv => ?_⟩
    have s56 : Step μ2 H3 μ6 H6 := s5.trans R5 s6
    obtain ⟨h6, _⟩ := done s56 R6
    have hlen : acc.length = accD.length := M.rds.length
    refine ⟨acc, h6, by rw [sizeLine_eq]; simp at hz; omega, ?_⟩
    have rds6 := (M.rds.step M.rel s3).step R3 s56
    refine k μ6 _ (acc ++ [v]) ⟨M.new, ((M.step.trans M.rel s3).trans R3 s56).mutate M.new, Rel.mutate (mg := ⟨g0, ρ⟩) R6 h6, upd_same, ?_, REnv.mutate (mg := ⟨g0, ρ⟩) (e3.step R3 s56) h6⟩ ((Tr.of_step M.rel (s3.trans R3 s56)).trans (Tr.mutate (mg := ⟨g0, ρ⟩) h6))
    exact RDs.mutate (mg := ⟨g0, ρ⟩) h6 (fun _ z => nomatch z) (rds6.app (.cons rv .nil))
/-- the inner loop -/
theorem inner_ok {D₀ : Addr} {μ1 : List Addr} {H1 : Hp} {σ : L2.St} {env : Env} {μ6 : List Addr} {st6 st7 : Store} {H6 : Hp} {acc : List V} {accD ds xs : List D} {J : It} {Nx : Hp → Prop}
    (M6 : Mid K g0 ρ D₀ μ1 H1 (L2.wipe σ vs) (Mi.wipe env vs) μ6 st6 H6 acc accD) (hd : ∀ j ∈ dom, j ∈ vs) (SR : SrcR K ⟨g0, D₀ :: ρ⟩ μ6 H6 J (.fix ds)) (hc : compFix g t e (Mi.wipe env vs) ds st6 = some (.ok xs st7)) (hz : accD.length + xs.length ≤ 16777216)
    (k : ∀ μ4 H4 acc', Mid K g0 ρ D₀ μ1 H1 (L2.wipe σ vs) (Mi.wipe env vs) μ4 st7 H4 acc' (accD ++ xs) → Tr K ⟨g0, D₀ :: ρ⟩ μ6 H6 μ4 H4 → Nx H4) :
    ∃ W1 : Nat → Nat → Hp → Prop, (∃ m, W1 0 m H6) ∧ ∀ j k H, W1 j k H → (J.stop j H ∧ Nx H) ∨ (J.go j H ∧ ∃ Nx1 : Hp → Prop, (∀ H', Nx1 H' → ∃ k', k' < k ∧ W1 (j + 1) k' H') ∧ ∀ x H', J.yld j H x H' →
      tMG K g0 dom g x (L2.wipe σ vs) H' fun σ3 H5 => L2.wipe σ3 vs = L2.wipe σ vs ∧ tMTx K g0 t σ3 H5 fun b H6 =>
        if b = true then tMx K g0 e σ3 H6 fun y H7 => ∃ acc, H7 D₀ = some (.lst acc) ∧ acc.length < sizeLine ∧ Nx1 (upd H7 D₀ (.lst (acc ++ [y]))) else Nx1 H6) := by
  obtain ⟨its, i1, i2⟩ := SR
  have il := i1.length
  refine ⟨fun j m H => ∃ μ7 st acc7 accD7 rest, m = ds.length - j ∧ j ≤ ds.length ∧ Mid K g0 ρ D₀ μ1 H1 (L2.wipe σ vs) (Mi.wipe env vs) μ7 st H acc7 accD7 ∧ Tr K ⟨g0, D₀ :: ρ⟩ μ6 H6 μ7 H ∧ compFix g t e (Mi.wipe env vs) (ds.drop j) st = some (.ok rest st7) ∧ accD7 ++ rest = accD ++ xs,
    ⟨ds.length, μ6, st6, acc, accD, xs, by omega, Nat.zero_le _, M6, Tr.refl, hc, rfl⟩, ?_⟩
  rintro j m H ⟨μ7, st, acc7, accD7, rest, rfl, hj, M, tr, hcc, hx⟩
  by_cases hlt : j < ds.length
  · have hdi : ds[j]? = some ds[j] := List.getElem?_eq_getElem hlt
    obtain ⟨it, hit, ir⟩ := i1.get hdi
    obtain ⟨go, yl⟩ := (i2 H tr.kp j).1 it hit
    have hdr : ds.drop j = ds[j] :: ds.drop (j + 1) := List.drop_eq_getElem_cons hlt
    rw [hdr] at hcc
    obtain ⟨o, st3, ys, st4, T, hc2, hr⟩ := compFix_cons hcc (fun x s z => nomatch z)
    cases hr
    refine .inr ⟨go, fun H4 => ∃ μ4 acc', Mid K g0 ρ D₀ μ1 H1 (L2.wipe σ vs) (Mi.wipe env vs) μ4 st3 H4 acc' (accD7 ++ o.toList) ∧ Tr K ⟨g0, D₀ :: ρ⟩ μ6 H6 μ4 H4, fun H4 ⟨μ4, acc', M4, t4⟩ => ⟨ds.length - (j + 1), by omega, μ4, st3, acc', _, ys, rfl, hlt, M4, t4, hc2, by rw [List.append_assoc]; exact hx⟩, fun x H3 y => ?_⟩
    refine turn_ok2 (it := it) M hd ?_ (yl x H3 y) T ?_ fun μ4 H4 acc' M4 t4 => ⟨μ4, acc', M4, tr.trans t4⟩
    · exact (tr.its i1).get hdi |> fun ⟨it', h1, h2⟩ => by rw [hit] at h1; cases h1; exact h2
    · have := congrArg List.length hx
      simp at this
      omega
  · have e : j = ds.length := by omega
    subst e
    rw [List.drop_length] at hcc
    cases ret_inv hcc
    rw [List.append_nil] at hx
    subst hx
    exact .inl ⟨(i2 H tr.kp _).2 il, k μ7 H acc7 M tr⟩
end
theorem comp2_cons {g : G} {t : T} {inn : Env → M (List D)} {σ : Env} {d : D} {ds : List D} {st : Store} {r : R (List D)} (h : comp2 g t inn σ (d :: ds) st = some r) :
    (∃ σ1 st1, g d σ = some σ1 ∧ t σ1 st = some (.ok false st1) ∧ comp2 g t inn σ ds st1 = some r) ∨
    (∃ σ1 st1 st2 xs ys st3, g d σ = some σ1 ∧ t σ1 st = some (.ok true st1) ∧ inn σ1 st1 = some (.ok xs st2) ∧ comp2 g t inn σ ds st2 = some (.ok ys st3) ∧ r = .ok (xs ++ ys) st3) := by
  unfold comp2 at h
  cases hg : g d σ with
  | none => rw [hg] at h; cases h
  | some σ1 =>
    rw [hg] at h
    obtain ⟨k, st1, ht, h⟩ := bndN_inv h
    cases k with
    | true =>
      rw [if_pos rfl] at h
      obtain ⟨xs, st2, he, h⟩ := bndN_inv h
      obtain ⟨ys, st3, hc, h⟩ := bndN_inv h
      cases ret_inv h
      exact .inr ⟨σ1, st1, st2, xs, ys, st3, rfl, ht, he, hc, rfl⟩
    | false =>
      rw [if_neg Bool.false_ne_true] at h
      exact .inl ⟨σ1, st1, rfl, ht, h⟩
def tMIx (K : PySem.W.Frag) (g0 : Names) (m : I) : TI := fun σ H Q => ∃ B : Base, tMI K ⟨g0, B.ρ⟩ B WF m σ H Q
section
variable {X : Cx} {B : Base} {W : Wish} {pos : Pos}
theorem ix_of {tg e : Expr} {m : I} (h : ∀ B, CI X B WF tg e m) : PI X tg e (tMIx X.K X.nm m) := ⟨fun pins s σ H Q I ⟨B, hw⟩ => (h B).run pins s σ H Q I hw⟩
theorem comp2_read {s s1 : I} {g g1 : G} {t t1 : T} {e : E} {vs vs1 dom dom1 : List Nat} (hd : ∀ j ∈ dom, j ∈ vs) (hd1 : ∀ j ∈ dom1, j ∈ vs1) :
    ∀ σ H Q, tML X.K ⟨X.nm, B.ρ⟩ B W (lComp2 s g t s1 g1 t1 e vs vs1) σ H Q → tLc2 (tMI X.K ⟨X.nm, B.ρ⟩ B W s) (tMG X.K X.nm dom g) (tMTx X.K X.nm t) (tMIx X.K X.nm s1) (tMG X.K X.nm dom1 g1) (tMTx X.K X.nm t1) (tMx X.K X.nm e) vs vs1 σ H Q := by
  rintro σ H Q ⟨μ, st, env, n, r, h, hq⟩
  rcases bnd_inv h with ⟨src, st1, e1, h1⟩ | ⟨x, st1, e1, rfl⟩
  case inr => exact ⟨μ, st, env, n, _, e1, hq⟩
  refine ⟨μ, st, env, n, _, e1, fun μ1 H1 J s1' R1 SR live D₀ hD => ?_⟩
  have n1 := n.next s1' R1
  have hD0 : H D₀ = none := s1'.fresh hD fun z => by
    obtain ⟨⟨ν, rfl, _⟩, _⟩ := s1'
    exact R1.new hD (List.mem_append_left _ z)
  have R1' : Rel X.K ⟨X.nm, D₀ :: B.ρ⟩ μ1 st1 (upd H1 D₀ (.lst [])) := R1.hold hD
  have env1 : REnv X.K ⟨X.nm, D₀ :: B.ρ⟩ μ1 (upd H1 D₀ (.lst [])) (L2.wipe σ vs) (Mi.wipe env vs) := by
    have q := n1.env.wipe vs
    exact ⟨q.len, fun i d h => let ⟨v, h1, h2⟩ := q.val i d h; ⟨v, h1, RD.step R1 (Step.laid hD) (h2.keep R1 hD (.inr trivial))⟩⟩
  have M0 : Mid X.K X.nm B.ρ D₀ μ1 H1 (L2.wipe σ vs) (Mi.wipe env vs) μ1 st1 (upd H1 D₀ (.lst [])) [] [] := ⟨hD, Step.laid hD, R1', upd_same, .nil, env1⟩
  cases src with
  | live l n => cases h1
  | fix ds =>
  dsimp only at h1
  obtain ⟨xs, st', e2, h2⟩ := bndN_inv h1
  split at h2
  case isFalse => cases h2
  rename_i hz
  cases ret_inv h2
  have hz' : xs.length ≤ 16777216 := of_decide_eq_true ((okLen_eq _).symm.trans hz)
  have fin : ∀ {μ2 H2 acc}, Mid X.K X.nm B.ρ D₀ μ1 H1 (L2.wipe σ vs) (Mi.wipe env vs) μ2 st' H2 acc xs → Q (.ref D₀) H2 := fun {μ2 H2 acc} M =>
    hq μ2 H2 D₀ acc (s1'.trans R1 M.step) M.rel hD0 M.at_ M.rds
  obtain ⟨its, i1, i2⟩ := SR
  have i1' := i1.hold R1 hD
  have il := i1.length
  refine ⟨fun i m H2 => ∃ μ2 st2 acc accD rest, m = ds.length - i ∧ i ≤ ds.length ∧ Mid X.K X.nm B.ρ D₀ μ1 H1 (L2.wipe σ vs) (Mi.wipe env vs) μ2 st2 H2 acc accD ∧ comp2 g t (compIn s1 g1 t1 e vs1) (Mi.wipe env vs) (ds.drop i) st2 = some (.ok rest st') ∧ accD ++ rest = xs,
    ⟨ds.length, μ1, st1, [], [], xs, by omega, Nat.zero_le _, M0, e2, rfl⟩, ?_⟩
  rintro i m H2 ⟨μ2, st2, acc, accD, rest, rfl, hi, M, hc, hx⟩
  have kp : Kp μ1 B.ρ H1 H2 := M.step.kp
  by_cases hlt : i < ds.length
  · have hdi : ds[i]? = some ds[i] := List.getElem?_eq_getElem hlt
    obtain ⟨it, hit, ir⟩ := i1'.get hdi
    obtain ⟨go, yl⟩ := (i2 H2 kp i).1 it hit
    have hdr : ds.drop i = ds[i] :: ds.drop (i + 1) := List.drop_eq_getElem_cons hlt
    rw [hdr] at hc
    have itr : ItR X.K ⟨X.nm, D₀ :: B.ρ⟩ μ2 H2 it ds[i] := ItsR.step' R1 M.step i1' |>.get hdi |> fun ⟨it', h1, h2⟩ => by rw [hit] at h1; cases h1; exact h2
    have hxl := congrArg List.length hx
    rcases comp2_cons hc with ⟨σ1, st3, hg, ht, hc2⟩ | ⟨σ1, st3, st4, ys, zs, st5, hg, ht, hin, hc2, hr⟩
    · refine .inr ⟨go, fun H4 => ∃ μ4 acc', Mid X.K X.nm B.ρ D₀ μ1 H1 (L2.wipe σ vs) (Mi.wipe env vs) μ4 st3 H4 acc' accD, fun H4 ⟨μ4, acc', M4⟩ => ⟨ds.length - (i + 1), by omega, μ4, st3, acc', _, rest, rfl, hlt, M4, hc2, hx⟩, fun x H3 y => ?_⟩
      obtain ⟨s3, R3, rd⟩ := hands_rd M.rel itr (yl x H3 y)
      have hD3 : H3 D₀ = some (.lst acc) := s3.keep _ _ M.at_ (M.rel.res D₀ List.mem_cons_self).1
      have e3 := M.env.step M.rel s3
      refine ⟨D₀ :: B.ρ, μ2, st2, _, _, σ1, R3, e3, rd, hg, fun σ2 e4 hl hj => ⟨wipe_same hd hl hj, ?_⟩⟩
      refine ⟨⟨μ2, D₀ :: B.ρ, H3⟩, μ2, st2, σ1, ⟨Step.refl _ _, R3, e4⟩, _, ht, fun μ5 H5 s5 R5 => ?_⟩
      dsimp only
      rw [if_neg Bool.false_ne_true]
      exact ⟨μ5, acc, M.new, (M.step.trans M.rel s3).trans R3 s5, R5, s5.keep _ _ hD3 (R3.res D₀ List.mem_cons_self).1, (M.rds.step M.rel s3).step R3 s5, (e3.step R3 s5)⟩
    · cases hr
      simp only [List.length_append] at hxl
      refine .inr ⟨go, fun H4 => ∃ μ4 acc', Mid X.K X.nm B.ρ D₀ μ1 H1 (L2.wipe σ vs) (Mi.wipe env vs) μ4 st4 H4 acc' (accD ++ ys), fun H4 ⟨μ4, acc', M4⟩ => ⟨ds.length - (i + 1), by omega, μ4, st4, acc', _, zs, rfl, hlt, M4, hc2, by rw [List.append_assoc]; exact hx⟩, fun x H3 y => ?_⟩
      obtain ⟨s3, R3, rd⟩ := hands_rd M.rel itr (yl x H3 y)
      have hD3 : H3 D₀ = some (.lst acc) := s3.keep _ _ M.at_ (M.rel.res D₀ List.mem_cons_self).1
      have e3 := M.env.step M.rel s3
      refine ⟨D₀ :: B.ρ, μ2, st2, _, _, σ1, R3, e3, rd, hg, fun σ2 e4 hl hj => ⟨wipe_same hd hl hj, ?_⟩⟩
      refine ⟨⟨μ2, D₀ :: B.ρ, H3⟩, μ2, st2, σ1, ⟨Step.refl _ _, R3, e4⟩, _, ht, fun μ5 H5 s5 R5 => ?_⟩
      dsimp only
      rw [if_pos rfl]
      obtain ⟨src1, st6, hs1, hin2⟩ := bndN_inv hin
      refine ⟨⟨μ5, D₀ :: B.ρ, H5⟩, μ5, st3, σ1, ⟨Step.refl _ _, R5, e4.step R3 s5⟩, _, hs1, fun μ6 H6 J1 s6 R6 SR1 live1 => ?_⟩
      cases src1 with
      | live l n => cases hin2
      | fix ds1 =>
      have s36 : Step μ2 H3 μ6 H6 := s5.trans R5 s6
      have h6 : H6 D₀ = some (.lst acc) := s36.keep _ _ hD3 (R3.res D₀ List.mem_cons_self).1
      have e6 : REnv X.K ⟨X.nm, D₀ :: B.ρ⟩ μ6 H6 (L2.wipe σ2 vs1) (Mi.wipe σ1 vs1) := ((e4.step R3 s5).step R5 s6).wipe vs1
      have M6 : Mid X.K X.nm B.ρ D₀ μ1 H1 (L2.wipe σ2 vs1) (Mi.wipe σ1 vs1) μ6 st6 H6 acc accD :=
        ⟨M.new, (M.step.trans M.rel s3).trans R3 s36, R6, h6, (M.rds.step M.rel s3).step R3 s36, e6⟩
      refine inner_ok M6 hd1 SR1 hin2 (by omega) fun μ4 H4 acc' M4 t4 => ⟨μ4, acc', M4.new, M4.step, M4.rel, M4.at_, M4.rds, ?_⟩
      exact t4.env ((e3.step R3 s36))
  · have e : i = ds.length := by omega
    subst e
    rw [List.drop_length] at hc
    cases ret_inv hc
    rw [List.append_nil] at hx
    subst hx
    exact .inl ⟨(i2 H2 kp _).2 il, fin M⟩
theorem cl_comp2 {elt tg iter tg1 iter1 : Expr} {ifs ifs1 : List Expr} {scope : Scope} {own : List (Str × Nat)} {vs1 : List Nat} {s s1 : I} {g g1 : G} {t t1 : T} {e : E} {dom dom1 : List Nat} (hc : X.calm = true) (hN : X.N.Nodup) (hi : CI X B W tg iter s) (ok : BlkOk X.N X.env.scope scope own)
    (hv : ∀ i ∈ vs1, i ∈ own.map (·.2))
    (hg : ∀ (s : Shared) (H : Hp) (C : Addr) (cl : List (Str × Addr)) (fp : List Addr), CG (X.blk s H scope (compEnvC scope cl C X.env) fp) tg dom g) (ht : ∀ (s : Shared) (H : Hp) (C : Addr) (cl : List (Str × Addr)) (fp : List Addr), CTs (X.blk s H scope (compEnvC scope cl C X.env) fp) ifs t)
    (hi1 : ∀ (s : Shared) (H : Hp) (C : Addr) (cl : List (Str × Addr)) (fp : List Addr) (B' : Base), CI (X.blk s H scope (compEnvC scope cl C X.env) fp) B' WF tg1 iter1 s1)
    (hg1 : ∀ (s : Shared) (H : Hp) (C : Addr) (cl : List (Str × Addr)) (fp : List Addr), CG (X.blk s H scope (compEnvC scope cl C X.env) fp) tg1 dom1 g1) (ht1 : ∀ (s : Shared) (H : Hp) (C : Addr) (cl : List (Str × Addr)) (fp : List Addr), CTs (X.blk s H scope (compEnvC scope cl C X.env) fp) ifs1 t1)
    (he : ∀ (s : Shared) (H : Hp) (C : Addr) (cl : List (Str × Addr)) (fp : List Addr) (B' : Base), CE (X.blk s H scope (compEnvC scope cl C X.env) fp) B' WF elt e) (hd : (dom.all fun j => (own.map (·.2)).contains j) = true) (hd1 : (dom1.all fun j => vs1.contains j) = true)
    (hs : ∀ x, foldedSetIterable iter X.env x = pure x := by intro _; rfl) (hs1 : ∀ env x, foldedSetIterable iter1 env x = pure x := by intro _ _; rfl) :
    CL X B W (.ListComp elt [⟨tg, iter, ifs, 0⟩, ⟨tg1, iter1, ifs1, 0⟩] scope pos) (lComp2 s g t s1 g1 t1 e (own.map (·.2)) vs1) :=
  PE.imp (pe_lc2 hc hN hi ok hv hg ht (fun s H C cl fp => ix_of (hi1 s H C cl fp)) hg1 ht1 (fun s H C cl fp => cx_of (he s H C cl fp)) hs hs1) (comp2_read (fun j hj => by
    have := List.all_eq_true.mp hd j hj
    simpa using this) (fun j hj => by
    have := List.all_eq_true.mp hd1 j hj
    simpa using this))
theorem ix_mem {vs1 : List Nat} {own : List (Str × Nat)} (h : (vs1.all fun j => (own.map (·.2)).contains j) = true) : ∀ i ∈ vs1, i ∈ own.map (·.2) := fun i hi => by
  have := List.all_eq_true.mp h i hi
  simpa using this
end
end Mi
end
set_option Elab.async false
set_option linter.all false
set_option autoImplicit false
set_option maxRecDepth 100000
set_option maxHeartbeats 2000000
/-! Mi: ranges as values, dicts: displays, stores, get, pop. -/
noncomputable section
namespace Mi
open PySem PySem.Spec PyProof.Rows L2
section
variable {X : Cx} {B : Base} {W : Wish} {a b c e o : Expr} {ma mb mc mo mi m : E} {pos p : Pos}

/-! ### ranges -/
def eRng (a : E) : E := fun σ => bnd (a σ) fun x => need (match x with | .int j => if small62 j then some (.rng 0 j) else none | _ => none)
def eRng2 (a b : E) : E := fun σ => bnd (a σ) fun x => bnd (b σ) fun y => need (match x, y with | .int i, .int j => if small62 i && small62 j then some (.rng i j) else none | _, _ => none)
theorem cr_range1 : CallR X (.type "range") (fun vs H Q => ∃ j, vs = [V.int j] ∧ ∀ p, H p = none → Q (.ref p) (upd H p (.rng 0 j))) := by
  intro pins s σ H vs us Q I r h
  obtain ⟨j, rfl, q⟩ := h
  obtain ⟨u1, rfl, rj⟩ := vals1 r
  obtain ⟨t, rfl⟩ := rj
  refine call_range_1 ⟨.ref s.heap.objs.size, upd H s.heap.objs.size (.rng 0 j), I.laid (t' := s.toks + 1 + 1) (fun b o e => Heap.get?_push_of_some _ e) (Nat.le_refl _) ?_, rfl, q _ (I.hok.fresh (Nat.le_refl _))⟩
  exact ⟨s.toks, t, s.toks + 1, Heap.get?_push_size _ rfl⟩
theorem rng_new {K : PySem.W.Frag} {mg : Ctx} {μ : List Addr} {st : Store} {H : Hp} {p : Addr} {i j : Int} (R : Rel K mg μ st H) (hp : H p = none) (hi : small62 i = true) (hj : small62 j = true) : Step μ H μ (upd H p (.rng i j)) ∧ Rel K mg μ st (upd H p (.rng i j)) ∧ RD K mg μ (upd H p (.rng i j)) (.ref p) (.rng i j) := by
  rw [small62_eq, Bool.and_eq_true, decide_eq_true_eq, decide_eq_true_eq] at hi hj
  exact ⟨Step.laid hp, R.laid hp, .rng upd_same (R.new hp) (fun z => by obtain ⟨_, o, e, _⟩ := R.res p z; rw [hp] at e; cases e) ⟨hi.1, hi.2, hj.1, hj.2⟩⟩
theorem ce_rng (hg : Gl X "range") (hm : X.mg "range" = none) (ha : CE X B W a ma) (hs : starEach (a :: []) X.env = (false, eval a X.env) :: starEach [] X.env := by rfl) (hpl : (backTo pos (starEach [] X.env)).any (·.1) = false := by rfl) :
    CE X B W (.Call (.Name "range" p) [a] [] pos) (eRng ma) := by
  refine PE.imp (pe_callTy cr_range1 hg hm boot_range (pa_cons ha pa_nil hs) (by decide) (by decide) hs hpl) ?_
  rintro σ H Q ⟨μ, st, env, n, r, h, hq⟩
  refine first n h (res_ex hq) fun d st1 μ1 H1 v h1 s1 n1 r1 => ?_
  obtain ⟨d2, e2, rfl⟩ := need_inv h1
  cases d <;> simp only at e2 <;> try (cases e2; done)
  split at e2
  · rename_i j hz
    cases e2
    cases r1
    refine ⟨j, rfl, fun q hp => ?_⟩
    obtain ⟨a1, a2, a3⟩ := rng_new n1.rel hp (show small62 0 = true by rw [small62_eq]; decide) hz
    exact hq _ _ _ (s1.trans n1.rel a1) a2 a3
  · cases e2
theorem ce_rng2 (hg : Gl X "range") (hm : X.mg "range" = none) (ha : CE X B W a ma) (hb : CE X B W b mb) (hs : starEach (a :: [b]) X.env = (false, eval a X.env) :: starEach [b] X.env := by rfl) (hs2 : starEach (b :: []) X.env = (false, eval b X.env) :: starEach [] X.env := by rfl) (hpl : (backTo pos (starEach [b] X.env)).any (·.1) = false := by rfl) :
    CE X B W (.Call (.Name "range" p) [a, b] [] pos) (eRng2 ma mb) := by
  refine PE.imp (pe_callTy cr_range2 hg hm boot_range (pa_cons ha (pa_cons hb pa_nil hs2) hs) (by decide) (by decide) hs hpl) ?_
  rintro σ H Q ⟨μ, st, env, n, r, h, hq⟩
  refine first n h (res_ex hq) fun d st1 μ1 H1 v h1 s1 n1 r1 => ?_
  refine first n1 h1 (res_ex hq) fun d' st2 μ2 H2 v' h2 s2 n2 r2 => ?_
  obtain ⟨d2, e2, rfl⟩ := need_inv h2
  cases d <;> cases d' <;> simp only at e2 <;> try (cases e2; done)
  split at e2
  · rename_i i j hz
    cases e2
    cases r1; cases r2
    rw [Bool.and_eq_true] at hz
    refine ⟨i, j, rfl, fun q hp => ?_⟩
    obtain ⟨a1, a2, a3⟩ := rng_new n2.rel hp hz.1 hz.2
    exact hq _ _ _ ((s1.trans n1.rel s2).trans n2.rel a1) a2 a3
  · cases e2

/-! ### a new dict -/
/-- a new dict of the store -/
theorem new_obj {K : PySem.W.Frag} {mg : Ctx} {μ : List Addr} {st : Store} {H : Hp} {q : Addr} {ob : HO} {u : O} (R : Rel K mg μ st H) (hq : H q = none) (h : ObjR K mg (μ ++ [q]) (upd H q ob) q u) : Step μ H (μ ++ [q]) (upd H q ob) ∧ Rel K mg (μ ++ [q]) (st ++ [u]) (upd H q ob) := by
  have hm := R.new hq
  have hr : q ∉ mg.ρ := fun z => by obtain ⟨_, o, e, _⟩ := R.res q z; rw [hq] at e; cases e
  have s : Step μ H (μ ++ [q]) (upd H q ob) := ⟨⟨[q], rfl, fun p hp => by simp at hp; subst hp; exact hq⟩, fun a o e _ => by rw [upd_ne (ne_of_none e hq)]; exact e⟩
  refine ⟨s, by simp [R.len], List.nodup_append.mpr ⟨R.nd, by simp, fun a ha b hb e => by simp at hb; subst hb; subst e; exact hm ha⟩, R.rn, fun a ha => ⟨fun z => ?_, ?_⟩, fun l a o h1 h2 => ?_⟩
  · rcases List.mem_append.mp z with z | z
    · exact (R.res a ha).1 z
    · simp at z; subst z; exact hr ha
  · obtain ⟨_, vs, e, nt⟩ := R.res a ha
    exact ⟨vs, by rw [upd_ne (ne_of_none e hq)]; exact e, nt⟩
  · by_cases hl : l < st.length
    · rw [List.getElem?_append_left (by rw [R.len]; exact hl)] at h1
      rw [List.getElem?_append_left hl] at h2
      exact (R.obj l a o h1 h2).step R s fun u e => by rw [upd_ne (ne_of_none e hq)]; exact e
    · rw [List.getElem?_append_right (by omega)] at h2
      rw [List.getElem?_append_right (by rw [R.len]; omega)] at h1
      have e : l - st.length = 0 := by
        have := (List.getElem?_eq_some_iff.mp h2).1
        simp at this; omega
      rw [e] at h2
      rw [R.len, e] at h1
      simp at h1 h2
      subst h1; subst h2
      exact h
/-- {} -/
def eDct0 : E := fun _ st => some (.ok (.loc st.length) (st ++ [.dct false []]))
theorem ce_dct0 : CE X B W (.Dict [] [] pos) eDct0 := by
  refine PE.imp pe_dnewK ?_
  rintro σ H Q ⟨μ, st, env, n, r, h, hq⟩
  cases h
  intro q hp
  obtain ⟨a1, a2⟩ := new_obj (ob := .dK []) (u := .dct false []) n.rel hp ⟨[], upd_same, .nil⟩
  exact hq _ _ _ a1 a2 (.loc (by rw [← n.rel.len]; simp))
/-- {k: v}: one pair; keys numbers and texts (false), tuples (true) -/
def eDct1 (t : Bool) (k v : E) : E := fun σ => bndN (k σ) fun x => bndN (v σ) fun y => fun st => if kOk t x then some (.ok (.loc st.length) (st ++ [.dct t [(x, y)]])) else none
/-- a fresh dict at p, held while its pairs are made, is written and goes into the store -/
theorem adopt {K : PySem.W.Frag} {mg : Ctx} {μ : List Addr} {st : Store} {H : Hp} {p : Addr} {o0 ob : HO} {u : O} (R : Rel K (mg.add p) μ st H) (e0 : H p = some o0) (nt : ∀ xs, o0 ≠ .tup xs) (nt' : ∀ xs, ob ≠ .tup xs) (h : ObjR K mg (μ ++ [p]) (upd H p ob) p u) :
    Rel K mg (μ ++ [p]) (st ++ [u]) (upd H p ob) := (R.mutateO e0 nt nt').take_inO h
theorem step_adopt {μ μ1 : List Addr} {H H1 : Hp} {p : Addr} {o ob : HO} (h : H p = none) (s : Step μ (upd H p o) μ1 H1) : Step μ H (μ1 ++ [p]) (upd H1 p ob) := by
  obtain ⟨⟨ν, rfl, hν⟩, k⟩ := s
  refine ⟨⟨ν ++ [p], List.append_assoc .., fun q hq => ?_⟩, fun a u e hn => ?_⟩
  · rcases List.mem_append.mp hq with z | z
    · have := hν q z
      by_cases hqp : q = p
      · rw [hqp]; exact h
      · rw [upd_ne hqp] at this; exact this
    · simp at z; subst z; exact h
  · have hap := ne_of_none e h
    rw [upd_ne hap]
    exact k a u (by rw [upd_ne hap]; exact e) hn
theorem ce_dctA (ha : ∀ B' : Base, CE X B' WF a ma) (hb : ∀ B' : Base, CE X B' WF b mb) : CE X B W (.Dict [some a] [b] pos) (eDct1 false ma mb) := by
  refine PE.imp (pe_disp (pps_cons (cx_of ha) (cx_of hb) pps_nil) rfl rfl (by simp) (by simp)) ?_
  rintro σ H Q ⟨μ, st, env, n, r, h, hq⟩
  intro p hp
  obtain ⟨x, st1, e1, h⟩ := bndN_inv h
  obtain ⟨y, st2, e2, h⟩ := bndN_inv h
  split at h
  case isFalse => cases h
  rename_i hk
  cases h
  have R0 : Rel X.K ⟨X.nm, p :: B.ρ⟩ μ st (upd H p (.dK [])) := n.rel.holdO hp (fun _ z => nomatch z)
  have E0 : REnv X.K ⟨X.nm, p :: B.ρ⟩ μ (upd H p (.dK [])) σ env := ⟨n.env.len, fun i d h => let ⟨v, h1, h2⟩ := n.env.val i d h; ⟨v, h1, RD.step n.rel (Step.laid hp) (h2.keep n.rel hp (.inr trivial))⟩⟩
  refine ⟨⟨μ, p :: B.ρ, upd H p (.dK [])⟩, μ, st, env, ⟨Step.refl _ _, R0, E0⟩, _, e1, fun μ1 H1 v s1 R1 r1 => ?_⟩
  refine ⟨⟨μ1, p :: B.ρ, H1⟩, μ1, st1, env, ⟨Step.refl _ _, R1, E0.step R0 s1⟩, _, e2, fun μ2 H2 u s2 R2 r2 => ?_⟩
  have s12 := s1.trans R1 s2
  have hpm : p ∉ μ := (R0.res p List.mem_cons_self).1
  have e2 : H2 p = some (.dK []) := s12.keep _ _ upd_same hpm
  simp only [kOk, Bool.false_eq_true, if_false] at hk
  obtain ⟨k, hk⟩ := Option.isSome_iff_exists.mp hk
  have := atom_inv hk
  subst this
  have hv := rd_of_keyD (r1.step R1 s2)
  subst hv
  refine ⟨e2, [(k, u)], rfl, by simp, ?_⟩
  have R3 := adopt (mg := ⟨X.nm, B.ρ⟩) (ob := .dK (mergeK [] [(k, u)])) (u := .dct false [(keyD k, y)]) R2 e2 (fun _ z => nomatch z) (fun _ z => nomatch z) ⟨_, upd_same, .cons (RD.mutate (mg := ⟨X.nm, B.ρ⟩) e2 (fun _ z => nomatch z) r2).take_in .nil⟩
  exact hq _ _ _ (step_adopt hp s12) R3 (.loc (by rw [← R2.len]; simp))
/-- one pair, the key a tuple -/
theorem pe_dispN {tk tv : TE} (hu : X.A.units + 90 < cLine) (hk : PE X a tk) (hv : PE X b tv) : PE X (.Dict [some a] [b] pos) (fun σ H Q => ∀ p, H p = none → tk σ (upd H p (.dK [])) fun y H1 => tv σ H1 fun z H2 => H2 p = some (.dK []) ∧ ∃ nk q, y = .ref q ∧ NkV H2 nk (.ref q) ∧ nk.depth ≤ 8 ∧ Q (.ref p) (upd H2 p (hoN X.w p [(nk, q, z)]))) := by
  refine ⟨fun pins s σ H Q I h => ?_⟩
  have hn := I.hok.fresh (Nat.le_refl s.heap.objs.size)
  have I1 := I.laid (a := s.heap.objs.size) (o := .dK []) (h' := s.heap.push { cls := .type "dict", data := .dict #[] }) (t' := s.toks) (fun _ _ q => Heap.get?_push_of_some _ q) (Nat.le_refl _) (dk_empty s.heap I.big)
  have hlen : (pairTrees [some a] [b] X.env pos).length = 1 := by rw [pairTrees_length _ _ _ _ rfl rfl]; rfl
  rw [arm_eval_Dict, zip_pairTrees [some a] [b] X.env pos rfl rfl, dictDisplay_pairs _ (fun z => by rw [z] at hlen; cases hlen) (by omega)]
  refine wpAny_bind (wpAny_standAt (wpAny_bind (wpAny_subDictH (knd := nestedKind X.prog X.w) (by show X.A.units + 8 < cLine; omega) (by omega) ?_)))
  refine thn ((pps_cons hk hv pps_nil).run pins _ σ _ (fun ps H2 => match ps with | [(y, z)] => H2 s.heap.objs.size = some (.dK []) ∧ ∃ nk q, y = .ref q ∧ NkV H2 nk (.ref q) ∧ nk.depth ≤ 8 ∧ Q (.ref s.heap.objs.size) (upd H2 s.heap.objs.size (hoN X.w s.heap.objs.size [(nk, q, z)])) | _ => False) I1 (h s.heap.objs.size hn)) fun ws s2 ⟨ps, H2, I2, rel, q2⟩ => ?_
  match ps, q2 with
  | [(y, z)], ⟨e, nk, q, ey, hnk, hd, q2⟩ =>
    subst ey
    cases rel with
    | @cons a b as bs hab t =>
      cases t
      obtain ⟨b1, b2⟩ := b
      obtain ⟨h1, h2⟩ := hab
      cases (show b1 = Value.ref q from h1)
      obtain ⟨zz, hds, vs0, r0, dd⟩ := dk_of I2.hok e
      cases r0
      have hkey : (nestedKind X.prog X.w).is s2.heap nk q := ⟨nk_is I2.hok hnk rfl, hd⟩
      refine ⟨[(nk, q, b2)], ⟨rfl, rfl, hkey, trivial⟩, empty_n dd, fun h' tk dd' hs => wpAny_pure ?_⟩
      have he : ∃ q, h'.get? s.heap.objs.size = some q := let ⟨q, _, _, hq, _⟩ := dd'; ⟨q, hq⟩
      exact ⟨.ref s.heap.objs.size, _, d_write I2 (by rw [e]; exact True.intro) hs he (dn_new (by show 1 ≤ sizeLine; decide) hds (.cons ⟨rfl, rfl, h2⟩ .nil) dd'), rfl, q2⟩
theorem ce_dctN (hu : X.A.units + 90 < cLine) (ha : ∀ B' : Base, CE X B' WF a ma) (hb : ∀ B' : Base, CE X B' WF b mb) : CE X B W (.Dict [some a] [b] pos) (eDct1 true ma mb) := by
  refine PE.imp (pe_dispN hu (cx_of ha) (cx_of hb)) ?_
  rintro σ H Q ⟨μ, st, env, n, r, h, hq⟩
  intro p hp
  obtain ⟨x, st1, e1, h⟩ := bndN_inv h
  obtain ⟨y, st2, e2, h⟩ := bndN_inv h
  split at h
  case isFalse => cases h
  rename_i hk
  cases h
  have R0 : Rel X.K ⟨X.nm, p :: B.ρ⟩ μ st (upd H p (.dK [])) := n.rel.holdO hp (fun _ z => nomatch z)
  have E0 : REnv X.K ⟨X.nm, p :: B.ρ⟩ μ (upd H p (.dK [])) σ env := ⟨n.env.len, fun i d h => let ⟨v, h1, h2⟩ := n.env.val i d h; ⟨v, h1, RD.step n.rel (Step.laid hp) (h2.keep n.rel hp (.inr trivial))⟩⟩
  refine ⟨⟨μ, p :: B.ρ, upd H p (.dK [])⟩, μ, st, env, ⟨Step.refl _ _, R0, E0⟩, _, e1, fun μ1 H1 v s1 R1 r1 => ?_⟩
  refine ⟨⟨μ1, p :: B.ρ, H1⟩, μ1, st1, env, ⟨Step.refl _ _, R1, E0.step R0 s1⟩, _, e2, fun μ2 H2 u s2 R2 r2 => ?_⟩
  have s12 := s1.trans R1 s2
  have hpm : p ∉ μ := (R0.res p List.mem_cons_self).1
  have e2 : H2 p = some (.dK []) := s12.keep _ _ upd_same hpm
  simp only [kOk, if_true] at hk
  obtain ⟨k, hk⟩ := Option.isSome_iff_exists.mp hk
  have rk := r1.step R1 s2
  have hx : ∃ q, v = .ref q := by
    cases x <;> simp only [tupKey] at hk <;> try (cases hk; done)
    cases r1 with
    | tup _ _ => exact ⟨_, rfl⟩
  obtain ⟨q, rfl⟩ := hx
  refine ⟨e2, k, q, rfl, nk_of rk (tup_inv hk).1, (tup_inv hk).2, ?_⟩
  have R3 := adopt (mg := ⟨X.nm, B.ρ⟩) (ob := hoN X.w p [(k, q, u)]) (u := .dct true [(x, y)]) R2 e2 (fun _ z => nomatch z) (fun _ z => nomatch z) ⟨_, upd_same, .cons hk (RD.mutate (mg := ⟨X.nm, B.ρ⟩) e2 (fun _ z => nomatch z) rk).take_in (RD.mutate (mg := ⟨X.nm, B.ρ⟩) e2 (fun _ z => nomatch z) r2).take_in .nil⟩
  exact hq _ _ _ (step_adopt hp s12) R3 (.loc (by rw [← R2.len]; simp))

/-! ### stores -/
/-- x[i] = e: of a list, a dict of the store -/
def sPutD (o i e : E) : S := fun σ => sBnd (e σ) σ fun d => sBnd (bnd (o σ) fun x => bnd (i σ) fun k => ret (x, k)) σ fun p st => match p.1 with
  | .loc l => (match st[l]? with
    | some (.lst ds) => (match p.2 with
      | .int k => (match L2.ixN ds.length k with
        | some j => some (.nx σ (st.set l (.lst (ds.set j d))))
        | none => none)
      | _ => none)
    | some (.dct t kvs) => (match dPut t kvs p.2 d with
      | some (t', kvs') => some (.nx σ (st.set l (.dct t' kvs')))
      | none => none)
    | _ => none)
  | _ => none
def rSetDM (X : Cx) : TSet := fun o i v H Q => ∃ (ρ μ : List Addr) (t t' : Bool) (kds kds' : List (D × D)) (k d : D) (a : Addr), o = .ref a ∧ DRep X.K ⟨X.nm, ρ⟩ μ H a t kds ∧ RD X.K ⟨X.nm, ρ⟩ μ H i k ∧ RD X.K ⟨X.nm, ρ⟩ μ H v d ∧ dPut t kds k d = some (t', kds') ∧
  ∀ ob, ((∃ kvs, ob = .dK kvs ∧ t' = false ∧ RDk X.K ⟨X.nm, ρ⟩ μ H kvs kds') ∨ ∃ nvs, ob = hoN X.w a nvs ∧ t' = true ∧ RDn X.K ⟨X.nm, ρ⟩ μ H nvs kds') → Q (upd H a ob)
theorem set_dctM (hu : X.A.units + 90 < cLine) : PSet X (rSetDM X) := by
  intro pins s σ H o i v ov iv u Q I ro ri rv h
  obtain ⟨ρ, μ, t, t', kds, kds', k, d, a, rfl, rep, rk, rd, hp, q⟩ := h
  cases (show ov = Value.ref a from ro)
  exact da_put hu I rep rk ri rv rd hp fun s' ob I' hob => ⟨_, I', q ob hob⟩
theorem PSet.or {t t' : TSet} (h : PSet X t) (h' : PSet X t') : PSet X (fun o i v H Q => t o i v H Q ∨ t' o i v H Q) := by
  intro pins s σ H o i v ov iv u Q I ro ri rv q
  rcases q with q | q
  · exact h pins s σ H o i v ov iv u Q I ro ri rv q
  · exact h' pins s σ H o i v ov iv u Q I ro ri rv q
theorem cs_putD {i : Expr} {tpos : Pos} (hu : X.A.units + 90 < cLine) (ho : CE X B W o mo) (hi : CE X B W i mi) (he : CE X B W e m) (hs : swapsWithSole [.Subscript o i tpos] e pos.line X.env = pure false := by rfl) (hw : swappedStores [.Subscript o i tpos] e X.env = pure none := by rfl)
    (h1 : (assignEach [.Subscript o i tpos] X.env).map (·.2) = [assign (.Subscript o i tpos) X.env] := by rfl)
    (ha : ∀ v, assign (.Subscript o i tpos) X.env v = (do
      let ov ← holding [v] (eval o X.env)
      let iv ← holding [v, ov] (eval i X.env)
      standAt tpos
      holding [v, ov, iv] (setItem ov iv v)
      release [v, ov, iv] []) := by intro _; rfl) : CS X B W (.Assign [.Subscript o i tpos] e pos) (sPutD mo mi m) := by
  refine PS.imp (ps_asg he (pg_sub ho hi (PSet.or set_list (set_dctM hu)) ha) hs hw h1) ?_
  rintro D σ H ⟨μ, st, env, n, r, h, hq⟩
  refine sfirst n h hq fun d st1 μ1 H1 v h1 s1 n1 r1 => ?_
  rcases sBnd_inv h1 with ⟨p, st2, e1, h2⟩ | ⟨x, st2, e1, rfl⟩
  · show tM _ _ _ _ _ _ _ _
    rcases bnd_inv e1 with ⟨ox, st3, e2, h3⟩ | ⟨x, st3, e2, z⟩
    · refine ⟨μ1, st1, env, n1, _, e2, fun μ2 H2 u s2 R2 r2 => ?_⟩
      have n2 := n1.next s2 R2
      rcases bnd_inv h3 with ⟨ix, st4, e3, h4⟩ | ⟨x, st4, e3, z⟩
      · refine ⟨μ2, st3, env, n2, _, e3, fun μ3 H3 w s3 R3 r3 => ?_⟩
        have n3 := n2.next s3 R3
        cases ret_inv h4
        have r1' := (r1.step n1.rel s2).step n2.rel s3
        have r2' := r2.step n2.rel s3
        have s13 := ((s1.trans n1.rel s2).trans n2.rel s3)
        dsimp only at h2
        cases ox <;> simp only at h2 <;> try (cases h2; done)
        rename_i l
        cases r2' with
        | @loc a _ ha =>
        split at h2
        · rename_i ds hl
          cases ix <;> simp only at h2 <;> try (cases h2; done)
          rename_i k
          split at h2
          · rename_i j hj
            cases h2
            cases r3
            obtain ⟨vs, q1, q2⟩ := n3.rel.obj _ _ _ ha hl
            refine .inl ⟨_, vs, k, j, rfl, rfl, q1, by rw [q2.length]; exact hj, ?_⟩
            have s4 : Step μ3 H3 μ3 (upd H3 _ (.lst (vs.set j v))) := Step.put ha
            have R4 := n3.rel.put ha (q2.set r1' j)
            exact hq _ _ _ (s13.trans n3.rel s4) R4 (n3.env.step n3.rel s4)
          · cases h2
        · rename_i t kvs hl
          split at h2
          · rename_i t' kvs' hp
            cases h2
            have rep := objR_dct.mp (n3.rel.obj _ _ _ ha hl)
            refine .inr ⟨B.ρ, μ3, t, t', kvs, kvs', ix, d, a, rfl, rep, r3, r1', hp, fun ob hob => ?_⟩
            have s4 : Step μ3 H3 μ3 (upd H3 a ob) := Step.put ha
            have R4 := n3.rel.putO (u := .dct t' kvs') (ob := ob) ha (by
              rcases hob with ⟨kk, rfl, rfl, rr⟩ | ⟨kk, rfl, rfl, rr⟩
              · exact ⟨kk, upd_same, rr.step n3.rel s4⟩
              · exact ⟨kk, upd_same, rr.step n3.rel s4⟩)
            exact hq _ _ _ (s13.trans n3.rel s4) R4 (n3.env.step n3.rel s4)
          · cases h2
        · cases h2
      · cases z
    · cases z
  · show tM _ _ _ _ _ _ _ _
    rcases bnd_inv e1 with ⟨ox, st3, e2, h3⟩ | ⟨x', st3, e2, z⟩
    · refine ⟨μ1, st1, env, n1, _, e2, fun μ2 H2 u s2 R2 r2 => ?_⟩
      rcases bnd_inv h3 with ⟨ix, st4, e3, h4⟩ | ⟨x', st4, e3, z⟩
      · cases ret_inv h4
      · cases z
        exact ⟨μ2, st3, env, n1.next s2 R2, _, e3, hq⟩
    · cases z
      exact ⟨μ1, st1, env, n1, _, e2, hq⟩
end
end Mi
end
set_option Elab.async false
set_option linter.all false
set_option autoImplicit false
set_option maxRecDepth 100000
set_option maxHeartbeats 1000000
/-! Mi: the keys of a dict as a list. -/
noncomputable section
namespace Mi
open PySem PySem.Spec PyProof.Rows L2
variable {X : Cx} {B : Base} {W : Wish} {a : Expr} {ma : E} {p pos : Pos}
/-- list(d) of a dict -/
def lKeys (a : E) : EL := fun σ => bnd (a σ) fun x => look fun st => match dctOf st x with
  | some (_, kvs) => if okLen kvs.length then some (kvs.map (·.1)) else none
  | none => none
theorem rd_keyD' {K : PySem.W.Frag} {mg : Ctx} {μ : List Addr} {H : Hp} (k : Key) : RD K mg μ H (kV k) (keyD k) := by cases k <;> constructor
section
variable {K : PySem.W.Frag} {mg : Ctx} {μ : List Addr} {H : Hp}
theorem keys_a : ∀ {kvs : List (Key × V)} {kds : List (D × D)}, RDk K mg μ H kvs kds → RDs K mg μ H (kvs.map fun e => kV e.1) (kds.map (·.1))
  | _, _, .nil => .nil
  | _, _, .cons _ t => .cons (rd_keyD' _) (keys_a t)
theorem keys_n : ∀ {nvs : List (NestedKey × Addr × V)} {kds : List (D × D)}, RDn K mg μ H nvs kds → RDs K mg μ H (nvs.map fun e => V.ref e.2.1) (kds.map (·.1))
  | _, _, .nil => .nil
  | _, _, .cons _ r _ t => .cons r (keys_n t)
theorem kn_vals : ∀ {nvs : List (NestedKey × Addr × V)} {xs : List (NestedKey × Addr × Value)}, KN nvs xs → Vals (nvs.map fun e => V.ref e.2.1) (xs.map fun e => Value.ref e.2.1)
  | _, _, .nil => .nil
  | _, _, .cons h t => .cons (by show _ = _; rw [h.2.1]) (kn_vals t)
end
/-- the keys of a dict with tuple keys -/
theorem list_n (hc : X.calm = true) : CallR X (.type "list") fun zs H Q => ∃ (d : Addr) (nvs : List (NestedKey × Addr × V)), zs = [V.ref d] ∧ H d = some (hoN X.w d nvs) ∧ ∀ q, H q = none → Q (.ref q) (upd H q (.lst (nvs.map fun e => V.ref e.2.1))) := by
  intro pins s σ H zs us Q I rz hz
  obtain ⟨d, nvs, e1, e2, hq⟩ := hz
  subst e1
  obtain ⟨u, e3, ru⟩ := rz.one
  subst e3
  cases ru
  obtain ⟨n1, n2, xs, n3, o, es, ep, n4, n5, n6, n7, n8⟩ := dn_of (P := X.prog) (w := X.w) I.hok e2
  have hlen : es.size = xs.length := by
    have := congrArg List.length n7
    rwa [Array.length_toList, List.length_map] at this
  have hl2 : nvs.length = xs.length := Paired.length n3
  refine PySem.W.kdl_call (kdl_raw n2 n5 n6) (I.ok.hd hc) n4 (by rw [hlen, ← hl2]; exact n1) fun hp tk got room kp hlist hitems => ?_
  have same : got.toList = xs.map fun e => Value.ref e.2.1 := by
    apply List.ext_getElem?
    intro j
    by_cases hj : j < got.size
    · have g1 : got.toList[j]? = some got[j] := by rw [Array.getElem?_toList]; exact Array.getElem?_eq_getElem hj
      obtain ⟨en, h1, h2⟩ := hitems.2 j got[j] (by rw [Array.getElem?_eq_getElem hj])
      have h3 : es.toList[j]? = some en := by rw [Array.getElem?_toList]; exact h1
      rw [n7, List.getElem?_map] at h3
      rw [g1, List.getElem?_map, h2]
      cases hx : xs[j]? with
      | none => rw [hx] at h3; exact nomatch h3
      | some y =>
        rw [hx] at h3
        cases Option.some.inj h3
        rfl
    · have h1 : xs.length ≤ j := by rw [← hlen, ← hitems.1]; exact Nat.le_of_not_lt hj
      rw [List.getElem?_eq_none (by rw [Array.length_toList]; exact Nat.le_of_not_lt hj), List.getElem?_eq_none (by rw [List.length_map]; exact h1)]
  exact ⟨.ref s.heap.objs.size, _, I.laid (t' := tk) kp (Nat.le_refl _) (show ObjOk X.prog X.w _ _ _ (.lst (nvs.map fun e => V.ref e.2.1)) from ⟨by rw [List.length_map]; exact n1, got.toList, room, by rw [same]; exact kn_vals n3, by rw [Array.toArray_toList]; exact hlist⟩), rfl, hq _ (I.hok.fresh (Nat.le_refl _))⟩
theorem list_d (hc : X.calm = true) : CallR X (.type "list") fun zs H Q => ∃ (mg : Ctx) (μ : List Addr) (d : Addr) (t : Bool) (kds : List (D × D)), mg.g = X.nm ∧ zs = [V.ref d] ∧ DRep X.K mg μ H d t kds ∧ ∀ q vs, RDs X.K mg μ H vs (kds.map (·.1)) → H q = none → Q (.ref q) (upd H q (.lst vs)) := by
  intro pins s σ H zs us Q I rz hz
  obtain ⟨mg, μ, d, t, kds, hg, e1, e2, hq⟩ := hz
  cases t with
  | false =>
    obtain ⟨kvs, e3, r⟩ := e2
    exact call_list_dK hc pins s σ H zs us Q I rz ⟨d, kvs, e1, e3, fun q hn => hq q _ (keys_a r) hn⟩
  | true =>
    obtain ⟨nvs, e3, r⟩ := e2
    exact list_n hc pins s σ H zs us Q I rz ⟨d, nvs, e1, by rw [hg] at e3; exact e3, fun q hn => hq q _ (keys_n r) hn⟩
theorem cl_keys (hc : X.calm = true) (hg : Gl X "list") (hm : X.mg "list" = none) (ha : CE X B W a ma) (he : starEach (a :: []) X.env = (false, eval a X.env) :: starEach [] X.env := by rfl) (hpl : (backTo pos (starEach [] X.env)).any (·.1) = false := by rfl) : CL X B W (.Call (.Name "list" p) [a] [] pos) (lKeys ma) := by
  refine PE.imp (pe_callTy (list_d hc) hg hm boot_list (pa_cons ha pa_nil he) (by decide) (by decide) he hpl) ?_
  rintro σ H Q ⟨μ, st, env, n, r, h, hq⟩
  refine first n h (resL_ex hq) fun d st1 μ1 H1 v h1 s1 n1 r1 => ?_
  obtain ⟨es, e2, rfl⟩ := look_inv h1
  split at e2
  · rename_i t kvs e3
    split at e2
    · cases e2
      obtain ⟨b, rfl, rep⟩ := dct_of n1.rel r1 e3
      refine ⟨_, μ1, b, t, kvs, rfl, rfl, rep, fun q vs rds hl => ?_⟩
      obtain ⟨a1, a2, a3, a4, a5⟩ := laid_list n.rel s1 n1.rel rds hl
      exact hq _ _ _ _ a1 a2 a3 a4 a5
    · cases e2
  · cases e2
/-- x = [..] with two generators, on one line -/
theorem cs_setLc2 {i : Nat} {y : Str} {py spos : Pos} {elt tg iter tg1 iter1 : Expr} {ifs ifs1 : List Expr} {scope : Scope} {own : List (Str × Nat)} {vs1 : List Nat} {s s1 : I} {g g1 : G} {t t1 : T} {e : E} {dom dom1 : List Nat} (hc : X.calm = true) (hN : X.N.Nodup) (hy : X.N[i]? = some y) (hyl : X.env.scope.names.lookup y = some .local)
    (hsw : swapsWith (.ListComp elt [⟨tg, iter, ifs, 0⟩, ⟨tg1, iter1, ifs1, 0⟩] scope pos) (some (.Name y py)) spos.line X.env = pure true) (hi : CI X B W tg iter s) (ok : BlkOk X.N X.env.scope scope own) (hv : ∀ i ∈ vs1, i ∈ own.map (·.2))
    (hg : ∀ (s : Shared) (H : Hp) (C : Addr) (cl : List (Str × Addr)) (fp : List Addr), CG (X.blk s H scope (compEnvC scope cl C X.env) fp) tg dom g) (ht : ∀ (s : Shared) (H : Hp) (C : Addr) (cl : List (Str × Addr)) (fp : List Addr), CTs (X.blk s H scope (compEnvC scope cl C X.env) fp) ifs t)
    (hi1 : ∀ (s : Shared) (H : Hp) (C : Addr) (cl : List (Str × Addr)) (fp : List Addr) (B' : Base), CI (X.blk s H scope (compEnvC scope cl C X.env) fp) B' WF tg1 iter1 s1)
    (hg1 : ∀ (s : Shared) (H : Hp) (C : Addr) (cl : List (Str × Addr)) (fp : List Addr), CG (X.blk s H scope (compEnvC scope cl C X.env) fp) tg1 dom1 g1) (ht1 : ∀ (s : Shared) (H : Hp) (C : Addr) (cl : List (Str × Addr)) (fp : List Addr), CTs (X.blk s H scope (compEnvC scope cl C X.env) fp) ifs1 t1)
    (he : ∀ (s : Shared) (H : Hp) (C : Addr) (cl : List (Str × Addr)) (fp : List Addr) (B' : Base), CE (X.blk s H scope (compEnvC scope cl C X.env) fp) B' WF elt e) (hd : (dom.all fun j => (own.map (·.2)).contains j) = true) (hd1 : (dom1.all fun j => vs1.contains j) = true)
    (hs : ∀ x, foldedSetIterable iter X.env x = pure x := by intro _; rfl) (hs1 : ∀ env x, foldedSetIterable iter1 env x = pure x := by intro _ _; rfl) (new : Bool) :
    CS X B W (.Assign [.Name y py] (.ListComp elt [⟨tg, iter, ifs, 0⟩, ⟨tg1, iter1, ifs1, 0⟩] scope pos) spos) (sSet i (if new then eNew (lComp2 s g t s1 g1 t1 e (own.map (·.2)) vs1) else eL (lComp2 s g t s1 g1 t1 e (own.map (·.2)) vs1))) := by
  refine PS.imp (ps_setLc2 (te := tMx X.K X.nm e) (tt := tMTx X.K X.nm t) (g := tMG X.K X.nm dom g) (tt1 := tMTx X.K X.nm t1) (g1 := tMG X.K X.nm dom1 g1) (wi1 := tMIx X.K X.nm s1) hc hN hy hyl hsw hi ok hv hg ht (fun s H C cl fp => ix_of (hi1 s H C cl fp)) hg1 ht1 (fun s H C cl fp => cx_of (he s H C cl fp)) hs hs1) ?_
  rintro D σ H ⟨μ, st, env, n, r, h, hq⟩
  have hd' : ∀ j ∈ dom, j ∈ own.map (·.2) := fun j hj => by
    have := List.all_eq_true.mp hd j hj
    simpa using this
  have hd1' : ∀ j ∈ dom1, j ∈ vs1 := fun j hj => by
    have := List.all_eq_true.mp hd1 j hj
    simpa using this
  refine (comp2_read (B := B) (W := W) hd' hd1' σ H _ ?_ : tLc2 _ _ _ _ _ _ _ _ _ σ H fun v H1 => D.nx (σ.set i (some v)) H1)
  cases new with
  | true =>
    rw [if_pos rfl] at h
    rcases sBnd_inv h with ⟨d, st1, e1, h1⟩ | ⟨x, st1, e1, rfl⟩
    · rcases bnd_inv e1 with ⟨ds, st2, e2, h2⟩ | ⟨x, st2, e2, z⟩
      · refine ⟨μ, st, env, n, _, e2, fun μ1 H1 p vs s1 R1 f1 f2 r1 => ?_⟩
        cases h2
        split at h1
        · cases h1
          have s2 : Step μ H (μ1 ++ [p]) H1 := by
            obtain ⟨⟨ν, rfl, hν⟩, k⟩ := s1
            exact ⟨⟨ν ++ [p], List.append_assoc .., fun q hq => by
              rcases List.mem_append.mp hq with z | z
              · exact hν q z
              · simp at z; subst z; exact f1⟩, k⟩
          have R2 := R1.take_in f2 r1
          exact hq _ _ _ s2 R2 ((n.next s2 R2).env.set (.loc (by rw [← R1.len]; simp)))
        · cases h1
      · cases z
    · rcases bnd_inv e1 with ⟨ds, st2, e2, h2⟩ | ⟨x', st2, e2, z⟩
      · cases h2
      · cases z
        exact ⟨μ, st, env, n, _, e2, hq⟩
  | false =>
    rw [if_neg Bool.false_ne_true] at h
    rcases sBnd_inv h with ⟨d, st1, e1, h1⟩ | ⟨x, st1, e1, rfl⟩
    · rcases bnd_inv e1 with ⟨ds, st2, e2, h2⟩ | ⟨x, st2, e2, z⟩
      · refine ⟨μ, st, env, n, _, e2, fun μ1 H1 p vs s1 R1 f1 f2 r1 => ?_⟩
        cases h2
        split at h1
        · cases h1
          exact hq _ _ _ s1 R1.free ((n.next s1 R1.free).env.set (.lst (R1.res p List.mem_cons_self).1 (List.nodup_cons.mp R1.rn).1 f2 r1.free))
        · cases h1
      · cases z
    · rcases bnd_inv e1 with ⟨ds, st2, e2, h2⟩ | ⟨x', st2, e2, z⟩
      · cases h2
      · cases z
        exact ⟨μ, st, env, n, _, e2, hq⟩
end Mi
end
set_option Elab.async false
set_option linter.all false
set_option autoImplicit false
set_option maxRecDepth 100000
set_option maxHeartbeats 1000000
/-! Mi: sorted of a tuple. -/
noncomputable section
namespace Mi
open PySem PySem.Spec PySem.Builtin PyProof.Rows L2 PySem.W
section
variable {P : Program} {wd : World} {A : Around} {X : Value → Shared → Prop} {s : Shared}
/-- the items of a tuple, gathered -/
theorem gather {t : Addr} {us : List Value} {K : List Value → Shared → Prop} (ht : IsTup s.heap t us.toArray) (hn : us.length ≤ sizeLine) (k : K us { s with heap := (s.heap.push (seqObj "list" #[] 0)).update s.heap.objs.size (Obj.mapSeq (· ++ us.toArray)) }) : wpAny (model P wd) A (collect (.ref t)) K X s := by
  obtain ⟨ob, g1, g2, m, g3⟩ := ht
  unfold collect; refine wpAny_bind (wpAny_runValue (codeAny_builtin entry_proto_collect' ?_))
  show wpAny (model P wd) _ (do again (.builtin "list.__iadd__" ⟨[← newList [], .ref t], []⟩)) _ _ s
  refine wpAny_bind (wpAny_newList (wpAny_pure (.intro (Code.quiet_builtin _ (by decide +kernel)) (codeAny_builtin entry_list_iadd' ?_))))
  show wpAny (model P wd) _ (Builtin.List.listExtendWith (.ref s.heap.objs.size) (.ref t) (.ref s.heap.objs.size)) _ _ { s with heap := s.heap.push (seqObj "list" #[] 0) }
  unfold Builtin.List.listExtendWith
  have g4 : (s.heap.push (seqObj "list" #[] 0)).get? t = some ob := Heap.get?_push_of_some _ g1
  refine wpAny_bind (wpAny_typeOf (T := "tuple") ⟨ob, g4, g2⟩ ?_)
  have y1 : (Value.type "tuple" == Value.type "tuple") = true := rfl
  rw [if_pos (by rw [y1, Bool.or_true])]
  refine wpAny_bind (listItems_at g4 g3 (wpAny_bind (listItems_at (xs := #[]) (n := 0) (Heap.get?_push_size _ rfl) rfl ?_)))
  rw [if_neg (by simp)]
  refine wpAny_bind (listUpdate_at (xs := #[]) (n := 0) (Heap.get?_push_size _ rfl) rfl ?_ (Nat.zero_le _) (by show (#[] ++ us.toArray).size ≤ sizeLine + 1; simp only [Array.size_append, List.size_toArray, List.length_nil]; omega))
  refine wpAny_pure ?_
  show wpAny (model P wd) A (do match (← load s.heap.objs.size).data with | .seq xs _ => pure xs.toList | _ => unsupported "internal:collect") K X { s with heap := (s.heap.push (seqObj "list" #[] 0)).update s.heap.objs.size (Obj.mapSeq (· ++ us.toArray)) }
  refine wpAny_bind (wpAny_load (get?_update_seq (Heap.get?_push_size _ rfl) _) ?_)
  have y2 : ((#[] : Array Value) ++ us.toArray).toList = us := by simp
  show wpAny (model P wd) _ (pure ((#[] : Array Value) ++ us.toArray).toList) K X _
  rw [y2]; exact wpAny_pure k
theorem sort_tup {β : Type} {R : Value → β → Prop} {enc : β → PyData} {t : Addr} {us : List Value} {bs : List β} {K : Value → Shared → Prop} (ht : IsTup s.heap t us.toArray) (e : EachIs R us bs) (er : EachIs (fun v b => ∃ as, Reads s.heap v (enc b) as) us bs) (hal : AllAlike (bs.map enc)) (hk : PySem.W.Sortable (bs.map enc)) (hL : bs.length ≤ sizeLine)
    (hu : ∀ b, b ∈ bs → A.units + 2 + (enc b).depth < cLine) (h : ∀ out, out.length = bs.length → EachIs R out (bs.mergeSort (dataLe false enc)) → K (.ref (s.heap.objs.size + 1)) { s with heap := sortedAll s.heap us (List.toArray out) }) :
    wpAny (model P wd) A (call (.builtin "sorted") [.ref t]) K X s := by
  have er' : EachIs (fun v b => ∃ as, Reads (sortingHeap (copyHeap s.heap us) (s.heap.objs.size + 1) us) v (enc b) as) us bs := er.mono fun _ _ ⟨as, r⟩ => ⟨as, Reads.keeps (fun _ _ => sorting_copy_old) r⟩
  have hn : us.length ≤ sizeLine := by rw [e.length]; exact hL
  have S := SortsAt.data (prog := P) (w := wd) (A := A.in1.in1) (s := { s with heap := sortingHeap (copyHeap s.heap us) (s.heap.objs.size + 1) us }) (each_map (R := fun v d => ∃ as, Reads (sortingHeap (copyHeap s.heap us) (s.heap.objs.size + 1) us) v d as) enc er') hal hk (bound_map hu)
  refine Calls.call_function_entry kind_sorted plain_sorted entry_sorted (args_sorted1 _) ?_
  unfold Builtin.«sorted»; refine wpAny_bind (m := checkCount "sorted" 1 1 _) (wpAny_pure (wpAny_bind (gather ht hn (wpAny_bind (wpAny_newList ?_ hn)))))
  have z : ((s.heap.push (seqObj "list" #[] 0)).update s.heap.objs.size (Obj.mapSeq (· ++ us.toArray))).objs.size = s.heap.objs.size + 1 := by rw [Heap.size_update, size_push']
  show wpAny _ _ _ _ _ { s with heap := copyHeap s.heap us }
  rw [z]
  refine wpAny_bind (wpAny_holding (wpAny_call_entry slot_list_sort ⟨_, copyHeap_at s.heap us, rfl⟩ entry_list_sort (list_sort_vals (s := { s with heap := copyHeap s.heap us }) (copyHeap_at s.heap us) S hn ?_) (args_list_sort _)))
  exact ⟨_, rfl, wpAny_pure ⟨_, rfl, h _ (by rw [sortVals_length false rfl]; exact e.length) (sortVals_data false e er' hal)⟩⟩
end
/-- sorted(x): a list or a tuple -/
def lSort (a : E) : EL := fun σ => bnd (a σ) fun x => look fun st => match seqOf st x with | some ds => sortD st ds | none => none
def rSortS (K : PySem.W.Frag) : List V → Hp → VK → Prop := fun xs H Q => ∃ (mg : Ctx) (μ : List Addr) (st : Store) (a : Addr) (vs : List V) (ds : List D) (ps : List PyData), xs = [.ref a] ∧ Rel K mg μ st H ∧ (SqL K H a vs ∨ SqT K H a vs) ∧ RDs K mg μ H vs ds ∧ DpAll K H vs ps ∧ alikeB ps = true ∧ (ps.all isTup1 = true ∨ ps.all noTup = true) ∧ ps.length ≤ 16777216 ∧ (∀ q ∈ ps, q.depth ≤ 64) ∧
  ∀ p ws, H p = none → RDs K mg μ H ws (((ds.zip ps).mergeSort (PySem.W.dataLe false (·.2))).map (·.1)) → Q (.ref p) (upd H p (.lst ws))
section
variable {X : Cx} {B : Base} {W : Wish} {a : Expr} {ma : E} {p pos : Pos}
theorem call_sortS (hu : X.A.units + 90 < cLine) : CallR X (.builtin "sorted") (rSortS X.K) := by
  intro pins s σ H xs us Q I r h
  obtain ⟨mg, μ, st, a, vs, ds, ps, rfl, R, hs | hs, rds, dps, hal, hso, hlen, hdp, q⟩ := h
  · exact call_sortP hu pins s σ H _ us Q I r ⟨mg, μ, st, a, vs, ds, ps, rfl, R, hs, rds, dps, hal, hso, hlen, hdp, q⟩
  obtain ⟨u, rfl, rx⟩ := vals1 r
  cases rx
  obtain ⟨its, rv, hl, hz⟩ := I.tuple hs
  obtain ⟨e1, e2⟩ := sort_src rfl I rds rv dps
  have hlz : ds.length = ps.length := by rw [← rds.length, dpAll_len dps]
  have hzl : (ds.zip ps).length = ps.length := by rw [List.length_zip, hlz, Nat.min_self]
  have hmap := zip_snd hlz
  refine sort_tup (enc := (·.2)) (bs := ds.zip ps) hl e1 e2 ?_ ?_ (by rw [hzl, sizeLine_eq]; exact hlen) (fun b hb => ?_) fun out ho eo => ?_
  · rw [hmap]
    intro d hd d' hd'
    exact List.all_eq_true.mp (List.all_eq_true.mp hal d hd) d' hd'
  · rw [hmap]
    rcases hso with h | h
    · refine .inl fun d hd => ?_
      have := List.all_eq_true.mp h d hd
      unfold isTup1 at this
      split at this
      · exact ⟨_, _, rfl⟩
      · cases this
    · refine .inr fun d hd => ?_
      have := List.all_eq_true.mp h d hd
      unfold noTup at this
      split at this
      · cases this
      · cases this
      · rename_i h1 h2
        exact ⟨h2, fun xs z => h1 xs z⟩
  · have : b.2 ∈ ps := by rw [← hmap]; exact List.mem_map.mpr ⟨b, hb, rfl⟩
    have := hdp _ this
    omega
  · obtain ⟨ws, w1, w2⟩ := sortR_out eo
    obtain ⟨ep, he'⟩ := PyProof.Rows.sortedAll_at s.heap its out.toArray
    have hlw : ws.length ≤ sizeLine := by
      rw [w1.length, ho, hzl, sizeLine_eq]; exact hlen
    exact ⟨.ref _, upd H (s.heap.objs.size + 1) (.lst ws), I.laid (t' := s.toks) (fun _ _ => PyProof.Rows.sortedAll_old) (Nat.le_succ _) ⟨hlw, out, ep, w1, he'⟩, rfl, q _ ws (I.hok.fresh (Nat.le_succ _)) w2⟩
theorem cl_sort (hu : X.A.units + 90 < cLine) (hg : Gl X "sorted") (hm : X.mg "sorted" = none) (ha : CE X B W a ma) (he : starEach (a :: []) X.env = (false, eval a X.env) :: starEach [] X.env := by rfl) (hpl : (backTo pos (starEach [] X.env)).any (·.1) = false := by rfl) :
    CL X B W (.Call (.Name "sorted" p) [a] [] pos) (lSort ma) := by
  refine PE.imp (pe_callB (call_sortS hu) hg hm boot_sorted (pa_cons ha pa_nil he) (by decide) (by decide) he hpl) ?_
  rintro σ H Q ⟨μ, st, env, n, r, h, hq⟩
  refine first n h (resL_ex hq) fun d st1 μ1 H1 v h1 s1 n1 r1 => ?_
  obtain ⟨es, e2, rfl⟩ := look_inv h1
  split at e2
  · rename_i ds e3
    obtain ⟨a, vs, rfl, hl, rds⟩ := seq_of n1.rel r1 e3
    unfold sortD at e2
    split at e2
    · rename_i ps e4
      split at e2
      · rename_i hc
        cases e2
        simp only [Bool.and_eq_true, Bool.or_eq_true] at hc
        refine ⟨⟨X.nm, B.ρ⟩, μ1, st1, a, vs, ds, ps, rfl, n1.rel, hl, rds, dps_of n1.rel rds e4, hc.1.1.1, hc.1.1.2, of_decide_eq_true ((okLen_eq _).symm.trans hc.1.2), fun q hq => of_decide_eq_true (List.all_eq_true.mp hc.2 q hq), fun p ws hp rw' => ?_⟩
        obtain ⟨a1, a2, a3, a4, a5⟩ := laid_list n.rel s1 n1.rel rw' hp
        exact hq _ _ _ _ a1 a2 a3 a4 a5
      · cases e2
    · cases e2
  · cases e2
end
end Mi
end
set_option Elab.async false
set_option linter.all false
set_option autoImplicit false
set_option maxRecDepth 100000
set_option maxHeartbeats 1000000
/-! Mi: sorted of a dict's keys. -/
noncomputable section
namespace Mi
open PySem PySem.Spec PySem.Builtin PyProof.Rows L2 PySem.W
section
variable {P : Program} {wd : World} {A : Around} {X : Value → Shared → Prop} {s : Shared} {T : String} {r d : Addr} {n : Nat} {Pi : Nat → Value → Prop} {OK : Heap → Prop}
theorem gatherK {R : List Value → Shared → Prop} (K : KdlSrc P wd T r d n Pi OK) (hh : A.handled = none) (hok : OK s.heap) (hn : n ≤ sizeLine)
    (k : ∀ (h' : Heap) (tk : Nat) (got : Array Value), (∀ b o, s.heap.get? b = some o → h'.get? b = some o) → s.heap.objs.size < h'.objs.size → ItemsOf Pi got n → R got.toList { s with heap := h', toks := tk }) : wpAny (model P wd) A (collect (.ref r)) R X s := by
  obtain ⟨z1, z2⟩ := K.there _ hok
  unfold collect; refine wpAny_bind (wpAny_runValue (codeAny_builtin entry_proto_collect' ?_))
  rw [Around.under_plainId PySem.F.plain_proto_collect _]
  show wpAny _ A.in1 (newList [] >>= fun x => again (.builtin "list.__iadd__" ⟨[x, .ref r], []⟩)) _ _ s
  refine wpAny_bind (wpAny_newObj_type (wpAny_pure (.intro (plainId_quiet PySem.F.plain_list_iadd _) (codeAny_builtin entry_list_iadd' ?_))))
  rw [Around.under_plainId PySem.F.plain_list_iadd _]
  have new : (s.heap.push { cls := .type "list", data := .seq ([] : List Value).toArray }).get? s.heap.objs.size = some { cls := .type "list", data := .seq #[] } := Heap.get?_push_size _ rfl
  show wpAny _ A.in1 (Builtin.List.listExtendWith (.ref s.heap.objs.size) (.ref r) (.ref s.heap.objs.size)) _ _ _
  have ext := kdl_extend (A := A) (s := { s with heap := s.heap.push { cls := .type "list", data := .seq ([] : List Value).toArray } }) (R := fun (q : Result) (s' : Shared) => ∃ (h' : Heap) (tk : Nat) (got : Array Value) (c : Nat), q = .ok (.ret (.ref s.heap.objs.size)) ∧ s' = { s with heap := h', toks := tk } ∧
      (∀ b o, s.heap.get? b = some o → h'.get? b = some o) ∧ h'.get? s.heap.objs.size = some { cls := .type "list", dict := none, data := .seq got c, slots := #[] } ∧ ItemsOf Pi got n)
    K hh (K.keep _ _ hok fun b _ o e => Heap.get?_push_of_some _ e) s.heap.objs.size (Nat.ne_of_gt z1) (Nat.ne_of_gt z2) (.ref s.heap.objs.size) 0 new
    (fun h' tk got c kp hl it => ⟨h', tk, got, c, rfl, rfl, fun b o e => kp b o (Nat.ne_of_lt (Heap.lt_size e)) (Heap.get?_push_of_some _ e), hl, it⟩) hn
  refine wpAny_mono ext (fun f s' y => ?_) fun e s' y => ?_
  · cases f with
    | done g =>
      obtain ⟨h', tk, got, c, e, rfl, kp, hl, it⟩ := y
      cases e
      show wpAny (model P wd) A (load s.heap.objs.size >>= _) _ _ _
      exact wpAny_bind (wpAny_load hl (wpAny_pure (k h' tk got kp (Heap.lt_size hl) it)))
    | again c1 =>
      refine ⟨y.1, codeAny_mono y.2 fun q s2 z => ?_⟩
      obtain ⟨h', tk, got, c, rfl, rfl, kp, hl, it⟩ := z
      show wpAny (model P wd) A (load s.heap.objs.size >>= _) _ _ _
      exact wpAny_bind (wpAny_load hl (wpAny_pure (k h' tk got kp (Heap.lt_size hl) it)))
  · obtain ⟨_, _, _, _, e', _⟩ := y
    cases e'
theorem sortK {β : Type} {R : Value → β → Prop} {enc : β → PyData} {bs : List β} {Q : Value → Shared → Prop} (K : KdlSrc P wd T r d n Pi OK) (hh : A.handled = none) (hok : OK s.heap) (hn : n ≤ sizeLine)
    (e : ∀ us : List Value, us.length = n → (∀ j v, us[j]? = some v → Pi j v) → EachIs R us bs ∧ EachIs (fun v b => ∃ as, Reads s.heap v (enc b) as) us bs) (hal : AllAlike (bs.map enc)) (hk : PySem.W.Sortable (bs.map enc)) (hL : bs.length ≤ sizeLine)
    (hu : ∀ b, b ∈ bs → A.units + 2 + (enc b).depth < cLine)
    (h : ∀ (h' : Heap) (tk : Nat) (p : Addr) (c : Nat) (out : List Value), (∀ b o, s.heap.get? b = some o → h'.get? b = some o) → s.heap.objs.size ≤ p → h'.get? p = some (seqObj "list" (List.toArray out) c) → out.length = bs.length → EachIs R out (bs.mergeSort (dataLe false enc)) → Q (.ref p) { s with heap := h', toks := tk }) :
    wpAny (model P wd) A (call (.builtin "sorted") [.ref r]) Q X s := by
  refine Calls.call_function_entry kind_sorted plain_sorted entry_sorted (args_sorted1 _) ?_
  unfold Builtin.«sorted»; refine wpAny_bind (m := checkCount "sorted" 1 1 _) (wpAny_pure (wpAny_bind (gatherK (A := A.in1) K hh hok hn fun h' tk got kp le it => ?_)))
  obtain ⟨r1, r2⟩ := e got.toList (by rw [Array.length_toList]; exact it.1) (fun j v q => it.2 j v (by rw [← Array.getElem?_toList]; exact q))
  have hz : got.toList.length ≤ sizeLine := by rw [Array.length_toList, it.1]; exact hn
  refine wpAny_bind (wpAny_newList ?_ hz)
  have ho : (h'.push (seqObj "list" got.toList.toArray 0)).get? h'.objs.size = some (seqObj "list" got.toList.toArray 0) := Heap.get?_push_size _ rfl
  have S := SortsAt.data (prog := P) (w := wd) (A := A.in1.in1) (s := { s with heap := sortingHeap (h'.push (seqObj "list" got.toList.toArray 0)) h'.objs.size got.toList, toks := tk }) (each_map (R := fun v d => ∃ as, Reads (sortingHeap (h'.push (seqObj "list" got.toList.toArray 0)) h'.objs.size got.toList) v d as) enc (r2.mono fun _ _ ⟨as, q⟩ => ⟨as, Reads.keeps (fun b o g => sortingHeap_old (Nat.ne_of_lt (Heap.lt_size (kp b o g))) (Heap.get?_push_of_some _ (kp b o g))) q⟩)) hal hk (bound_map hu)
  show wpAny _ _ _ _ _ { s with heap := h'.push (seqObj "list" got.toList.toArray 0), toks := tk }
  refine wpAny_bind (wpAny_holding (wpAny_call_entry slot_list_sort ⟨_, ho, rfl⟩ entry_list_sort (list_sort_vals (s := { s with heap := h'.push (seqObj "list" got.toList.toArray 0), toks := tk }) ho S hz ?_) (args_list_sort _)))
  refine ⟨_, rfl, wpAny_pure ⟨_, rfl, ?_⟩⟩
  obtain ⟨c, hc⟩ := sortedHeap_at (vs := got.toList) (out := (sortVals (dataKind (sortingHeap (h'.push (seqObj "list" got.toList.toArray 0)) h'.objs.size got.toList) (bs.map enc)) false got.toList got.toList).toArray) ho
  refine h _ tk h'.objs.size c _ (fun b o g => ?_) (Nat.le_of_lt le) hc (by rw [sortVals_length false rfl]; exact r1.length) (sortVals_data false r1 (r2.mono fun _ _ ⟨as, q⟩ => ⟨as, Reads.keeps (fun b o g => sortingHeap_old (Nat.ne_of_lt (Heap.lt_size (kp b o g))) (Heap.get?_push_of_some _ (kp b o g))) q⟩) hal)
  have g' := kp b o g
  rw [sortedHeap_old (Nat.ne_of_lt (Heap.lt_size g')) (by rw [size_push']; exact Nat.lt_succ_of_lt (Heap.lt_size g'))]
  exact Heap.get?_push_of_some _ g'
end
/-- sorted(d) -/
def lSortK (a : E) : EL := fun σ => bnd (a σ) fun x => look fun st => match dctOf st x with | some (_, kvs) => sortD st (kvs.map (·.1)) | none => none
section
variable {X : Cx} {B : Base} {W : Wish} {a : Expr} {ma : E} {p pos : Pos}
def rSortD (X : Cx) : List V → Hp → VK → Prop := fun zs H Q => ∃ (mg : Ctx) (μ : List Addr) (st : Store) (d : Addr) (t : Bool) (kds : List (D × D)) (ps : List PyData), mg.g = X.nm ∧ zs = [.ref d] ∧ Rel X.K mg μ st H ∧ DRep X.K mg μ H d t kds ∧ toPys st (kds.map (·.1)) = some ps ∧ alikeB ps = true ∧ (ps.all isTup1 = true ∨ ps.all noTup = true) ∧ ps.length ≤ 16777216 ∧ (∀ q ∈ ps, q.depth ≤ 64) ∧
  ∀ q ws, H q = none → RDs X.K mg μ H ws ((((kds.map (·.1)).zip ps).mergeSort (PySem.W.dataLe false (·.2))).map (·.1)) → Q (.ref q) (upd H q (.lst ws))
theorem sortable_of {ps : List PyData} (h : ps.all isTup1 = true ∨ ps.all noTup = true) : PySem.W.Sortable ps := by
  rcases h with h | h
  · refine .inl fun d hd => ?_
    have := List.all_eq_true.mp h d hd
    unfold isTup1 at this
    split at this
    · exact ⟨_, _, rfl⟩
    · cases this
  · refine .inr fun d hd => ?_
    have := List.all_eq_true.mp h d hd
    unfold noTup at this
    split at this
    · cases this
    · cases this
    · rename_i h1 h2
      exact ⟨h2, fun xs z => h1 xs z⟩
theorem sort_end {pins : List (Addr × Obj)} {s : Shared} {σ : L2.St} {H : Hp} {mg : Ctx} {μ : List Addr} {d : Addr} {n : Nat} {Pi : Nat → Value → Prop} {OK : Heap → Prop} {ds : List D} {vs : List V} {ps : List PyData} {Q : VK} (hc : X.calm = true) (hu : X.A.units + 90 < cLine) (I : Inv X pins σ H s) (K : KdlSrc X.prog X.w "dict" d d n Pi OK) (hok : OK s.heap) (hn : n ≤ sizeLine) (hl : vs.length = n)
    (hv : ∀ us : List Value, us.length = n → (∀ j v, us[j]? = some v → Pi j v) → Vals vs us) (rds : RDs X.K mg μ H vs ds) (dps : DpAll X.K H vs ps) (hal : alikeB ps = true) (hso : ps.all isTup1 = true ∨ ps.all noTup = true) (hlen : ps.length ≤ 16777216) (hdp : ∀ q ∈ ps, q.depth ≤ 64)
    (q : ∀ q ws, H q = none → RDs X.K mg μ H ws (((ds.zip ps).mergeSort (PySem.W.dataLe false (·.2))).map (·.1)) → Q (.ref q) (upd H q (.lst ws))) :
    wpAny (model X.prog X.w) X.A (call (.builtin "sorted") [.ref d]) (EP X pins σ Q) X.xe s := by
  have hlz : ds.length = ps.length := by rw [← rds.length, dpAll_len dps]
  have hzl : (ds.zip ps).length = ps.length := by rw [List.length_zip, hlz, Nat.min_self]
  have hmap := zip_snd hlz
  refine sortK (enc := (·.2)) (bs := ds.zip ps) K (I.ok.hd hc) hok hn (fun us h1 h2 => sort_src rfl I rds (hv us h1 h2) dps) ?_ ?_ (by rw [hzl, sizeLine_eq]; exact hlen) (fun b hb => ?_) fun h' tk p c out kp le at' ho eo => ?_
  · rw [hmap]
    exact fun x hx y hy => List.all_eq_true.mp (List.all_eq_true.mp hal x hx) y hy
  · rw [hmap]; exact sortable_of hso
  · have : b.2 ∈ ps := by rw [← hmap]; exact List.mem_map.mpr ⟨b, hb, rfl⟩
    have := hdp _ this
    omega
  · obtain ⟨ws, w1, w2⟩ := sortR_out eo
    have hlw : ws.length ≤ sizeLine := by rw [w1.length, ho, hzl, sizeLine_eq]; exact hlen
    exact ⟨.ref p, upd H p (.lst ws), I.laid (t' := tk) kp le ⟨hlw, out, c, w1, at'⟩, rfl, q _ ws (I.hok.fresh le) w2⟩
theorem call_sortDct (hc : X.calm = true) (hu : X.A.units + 90 < cLine) : CallR X (.builtin "sorted") (rSortD X) := by
  intro pins s σ H zs us Q I rz h
  obtain ⟨mg, μ, st, d, t, kds, ps, hg, e1, R, rep, e4, hal, hso, hlen, hdp, q⟩ := h
  subst e1
  obtain ⟨u, e5, ru⟩ := rz.one
  subst e5
  cases ru
  cases t with
  | false =>
    obtain ⟨kvs, ha, rk⟩ := rep
    obtain ⟨z, lo, vs, rr, hd⟩ := (show ObjOk X.prog X.w H s.heap d (.dK kvs) from I.hok d _ ha)
    obtain ⟨ep, hat⟩ := hd.dictAt
    have hl : kvs.length = vs.length := Paired.length rr
    refine sort_end hc hu I (PySem.W.kdl_dict (knd := mixKind X.prog X.w) (kvs := vs) (ep := ep) lo) hat (by rw [← hl]; exact z) (by rw [List.length_map]; exact hl) (fun us h1 h2 => ?_) (keys_a rk) (dps_of R (keys_a rk) e4) hal hso hlen hdp q
    refine vals_of_at (by rw [List.length_map, h1, hl]) fun j x w g1 g2 => ?_
    obtain ⟨k, y, hky, hi⟩ := h2 j w g2
    rw [List.getElem?_map] at g1
    have g3 : (kvs.map (·.1))[j]? = some k := by rw [KV.keys rr, List.getElem?_map, hky]; rfl
    rw [List.getElem?_map] at g3
    cases hj : kvs[j]? with
    | none => rw [hj] at g1; cases g1
    | some e =>
      rw [hj] at g1 g3
      cases g1
      have : e.1 = k := Option.some.inj g3
      show RelV (kV e.1) w
      rw [this]
      exact keyIs_rel hi
  | true =>
    obtain ⟨nvs, ha, rk⟩ := rep
    rw [hg] at ha
    obtain ⟨n1, n2, xs, n3, o, es, ep, n4, n5, n6, n7, n8⟩ := dn_of (P := X.prog) (w := X.w) I.hok ha
    have hlen' : es.size = xs.length := by
      have := congrArg List.length n7
      rwa [Array.length_toList, List.length_map] at this
    have hl2 : nvs.length = xs.length := Paired.length n3
    refine sort_end hc hu I (kdl_raw n2 n5 n6) n4 (by rw [hlen', ← hl2]; exact n1) (by rw [List.length_map, hl2, hlen']) (fun us h1 h2 => ?_) (keys_n rk) (dps_of R (keys_n rk) e4) hal hso hlen hdp q
    have same : us = xs.map fun e => Value.ref e.2.1 := by
      apply List.ext_getElem?
      intro j
      by_cases hj : j < us.length
      · obtain ⟨en, g1, g2⟩ := h2 j us[j] (List.getElem?_eq_getElem hj)
        have g3 : es.toList[j]? = some en := by rw [Array.getElem?_toList]; exact g1
        rw [n7, List.getElem?_map] at g3
        rw [List.getElem?_eq_getElem hj, List.getElem?_map, g2]
        cases hx : xs[j]? with
        | none => rw [hx] at g3; exact nomatch g3
        | some y =>
          rw [hx] at g3
          cases Option.some.inj g3
          rfl
      · rw [List.getElem?_eq_none (Nat.le_of_not_lt hj), List.getElem?_eq_none (by rw [List.length_map, ← hlen', ← h1]; exact Nat.le_of_not_lt hj)]
    rw [same]
    exact kn_vals n3
theorem cl_sortK (hc : X.calm = true) (hu : X.A.units + 90 < cLine) (hg : Gl X "sorted") (hm : X.mg "sorted" = none) (ha : CE X B W a ma) (he : starEach (a :: []) X.env = (false, eval a X.env) :: starEach [] X.env := by rfl) (hpl : (backTo pos (starEach [] X.env)).any (·.1) = false := by rfl) :
    CL X B W (.Call (.Name "sorted" p) [a] [] pos) (lSortK ma) := by
  refine PE.imp (pe_callB (call_sortDct hc hu) hg hm boot_sorted (pa_cons ha pa_nil he) (by decide) (by decide) he hpl) ?_
  rintro σ H Q ⟨μ, st, env, n, r, h, hq⟩
  refine first n h (resL_ex hq) fun d st1 μ1 H1 v h1 s1 n1 r1 => ?_
  obtain ⟨es, e2, rfl⟩ := look_inv h1
  split at e2
  · rename_i t kvs e3
    obtain ⟨b, rfl, rep⟩ := dct_of n1.rel r1 e3
    unfold sortD at e2
    split at e2
    · rename_i ps e4
      split at e2
      · rename_i hcc
        cases e2
        simp only [Bool.and_eq_true, Bool.or_eq_true] at hcc
        refine ⟨⟨X.nm, B.ρ⟩, μ1, st1, b, t, kvs, ps, rfl, rfl, n1.rel, rep, e4, hcc.1.1.1, hcc.1.1.2, of_decide_eq_true ((okLen_eq _).symm.trans hcc.1.2), fun q hq => of_decide_eq_true (List.all_eq_true.mp hcc.2 q hq), fun p ws hp rw' => ?_⟩
        obtain ⟨a1, a2, a3, a4, a5⟩ := laid_list n.rel s1 n1.rel rw' hp
        exact hq _ _ _ _ a1 a2 a3 a4 a5
      · cases e2
    · cases e2
  · cases e2
end
end Mi
end
set_option Elab.async false
set_option linter.all false
set_option autoImplicit false
set_option maxRecDepth 100000
set_option maxHeartbeats 4000000
/-! Mi: sorted(set(x)) of a list of whole numbers. -/
noncomputable section
namespace L2
open PySem PySem.Spec PyProof.Rows
section
variable {P : Program} {wd : World} {A : Around} {X : Value → Shared → Prop} {s : Shared}
/-- the set's object, before anything is in -/
abbrev fresh0 (wd : World) : Obj := { cls := .type "set", dict := none, data := .set #[] 0 (.fresh 0 0 (!wd.params.followText "set-order")) }
theorem set_of_list {b : Addr} {its : Array Value} (js : List Int) {Q : Value → Shared → Prop} (hh : A.handled = none) (lst : s.heap.IsList b its) (nums : IntsAre its.toList js) (room : js.length + 1 < scanBound)
    (fin : ∀ (h' : Heap) (tk c : Nat), SetR wd h' s.heap.objs.size (fun j => decide (j ∈ js)) c → c ≤ js.length → (∀ b o, s.heap.get? b = some o → h'.get? b = some o) → Q (.ref s.heap.objs.size) { s with heap := h', toks := tk }) :
    wpAny (model P wd) A (call (.type "set") [.ref b]) Q X s := by
  have sz : its.size = js.length := by
    have := IntsAre.length nums
    rwa [Array.length_toList] at this
  obtain ⟨c, tl, the_mro⟩ := F.called_set.mro
  have the_made := F.called_set.made; have the_sub := F.called_set.sub
  refine wpAny_call (codeAny_of_tree ?_); show wpAny (model P wd) _ (callAny (.type "set") _) _ _ s
  refine wpAny_pure (.intro (Code.quiet_builtin _ (by decide +kernel)) (codeAny_builtin F.entry_type_call ?_))
  rw [Around.under_plain (weight_type_call_type "set" [.ref b] []) rfl]
  have n1 := F.called_set.notType; have n2 := F.called_set.canCreate; have n3 := F.typeCall_set_1 (.ref b)
  repeat (any_goals (first | assumption | wp_step))
  refine codeAny_mono (code_set_led1 (.ref b) (E := X) (Q₁ := fun ob s1 => ob = .ref s.heap.objs.size ∧ s1 = { s with heap := s.heap.push (fresh0 wd) }) ⟨rfl, rfl⟩) fun r s1 hr => ?_
  match r, hr with
  | .error e, hr => exact hr
  | .ok (.ret ob), hr =>
    obtain ⟨rfl, rfl⟩ := hr
    have hS : (s.heap.push (fresh0 wd)).get? s.heap.objs.size = some (fresh0 wd) := Heap.get?_push_size _ rfl
    have hT : Shared.TypeIs { s with heap := s.heap.push (fresh0 wd) } (.ref s.heap.objs.size) "set" := ⟨_, hS, rfl⟩
    have look := F.called_set.init.lookup; have bind := F.called_set.init.bind (.ref s.heap.objs.size)
    repeat (any_goals (first | assumption | wp_step))
    refine codeAny_mono (codeAny_call_builtin (R := wants (fun r s2 => r = .none ∧ ∃ h' tk c, s2 = { s with heap := h', toks := tk } ∧ SetR wd h' s.heap.objs.size (fun j => decide (j ∈ js)) c ∧ c ≤ js.length ∧ (∀ b o, s.heap.get? b = some o → h'.get? b = some o)) X) F.called_set.init.plain F.entry_set_init (check_set_init_1 hT ?_)) fun r2 s2 hr2 => ?_
    · obtain ⟨⟨oc, od, odt, osl⟩, g1, g2, m, g3⟩ := lst
      simp only at g2 g3
      subst g2; subst g3
      have g4 : (s.heap.push (fresh0 wd)).get? b = some { cls := .type "list", dict := od, data := .seq its m, slots := osl } := Heap.get?_push_of_some _ g1
      have k1 := F.sub_list_set; have k2 := F.sub_list_frozenset
      have k3 : (Value.type "list" == Value.type "dict") = false := by decide
      have g5 : (s.heap.push (fresh0 wd)).IsList b its := ⟨_, g4, rfl, m, rfl⟩
      unfold Builtin.«set.__init__» noKeywords Builtin.Frozenset.updateFrom
      generalize hp : pyIter = it
      wp_walk
      subst hp
      refine wpAny_pyIter_list g5 (wpAny_bind (wpAny_runValue ?_))
      have lt : b < s.heap.objs.size := Heap.lt_size g1
      have hh3 : A.in1.in1.in1.handled = none := by simp [hh]
      have ne : b ≠ (s.heap.push (fresh0 wd)).objs.size := by rw [Heap.size_push]; exact Nat.ne_of_lt (Nat.lt_succ_of_lt lt)
      have nm : s.heap.objs.size ∉ [(s.heap.push (fresh0 wd)).objs.size, b] := by
        rw [Heap.size_push]; simp only [List.mem_cons, List.not_mem_nil, or_false, not_or]
        exact ⟨Nat.ne_of_lt (Nat.lt_succ_self _), Nat.ne_of_gt lt⟩
      have val : ∀ (i : Nat) (v : Value), its[i]? = some v → ∃ k t, js[i]? = some k ∧ v = .int k t := fun i v hv => by
        have hi : i < js.length := by rw [← sz]; exact (Array.getElem?_eq_some_iff.mp hv).1
        obtain ⟨t, e⟩ := IntsAre.int_at nums i v (by rw [Array.getElem?_toList]; exact hv)
        refine ⟨js[i], t, List.getElem?_eq_getElem hi, ?_⟩
        rw [e, List.getD_eq_getElem?_getD, List.getElem?_eq_getElem hi] <;> rfl
      refine set_update_ints ((Walks.list hh3 _ b ne its).toS) s.heap.objs.size nm js sz room val (its.size - 0) 0 _ (by omega) (Nat.zero_le _) ⟨⟨_, Heap.get?_push_size _ rfl, rfl, rfl⟩, (g5.push _)⟩ ⟨0, Nat.le_refl 0, setR_new_at (Heap.get?_push_of_some _ hS)⟩ ?_
      intro s' c' mv hc' hS'
      obtain ⟨h', y1, y2, y3, y4⟩ := s'
      obtain rfl : y1 = s.gens := mv.gens
      obtain rfl : y2 = s.drawn := mv.drawn
      obtain rfl : y4 = s.os := mv.os
      show wpAny (model P wd) _ _ _ _ _
      refine wpAny_pure ?_
      show wpAny (model P wd) _ (ret Value.none) _ _ _
      rw [sz] at hc'
      refine wpAny_pure ⟨rfl, h', y3, c', rfl, hS', hc', fun a o e => ?_⟩
      have l0 : a < s.heap.objs.size := Heap.lt_size e
      have l2 : a ≠ (s.heap.push (fresh0 wd)).objs.size := by rw [Heap.size_push]; exact Nat.ne_of_lt (Nat.lt_succ_of_lt l0)
      exact mv.heap a o (by simp only [List.mem_cons, List.not_mem_nil, or_false, not_or]; exact ⟨Nat.ne_of_lt l0, l2⟩) (Heap.get?_push_of_some _ (Heap.get?_push_of_some _ e))
    · match r2, hr2 with
      | .error e, hr2 => exact hr2
      | .ok (.ret r), hr2 =>
        obtain ⟨rfl, h', tk, c', rfl, hS', hc', hk'⟩ := hr2
        repeat (any_goals (first | assumption | wp_step))
        exact fin _ _ _ hS' hc' hk'
end
end L2
end
set_option Elab.async false
set_option linter.all false
set_option autoImplicit false
set_option maxRecDepth 100000
set_option maxHeartbeats 1000000
/-! Mi: sorted(set(x)) of a list of whole numbers: the rule. -/
noncomputable section
namespace Mi
open PySem PySem.Spec PyProof.Rows L2
variable {X : Cx} {B : Base} {W : Wish} {a : Expr} {ma : E} {p p1 pos pos1 : Pos}
/-- each number once -/
def once : List Int → List Int
  | [] => []
  | x :: xs => if x ∈ once xs then once xs else x :: once xs
theorem mem_once {k : Int} : ∀ {xs : List Int}, k ∈ once xs ↔ k ∈ xs
  | [] => Iff.rfl
  | x :: xs => by
    unfold once
    split
    · rename_i h
      rw [mem_once, List.mem_cons]
      exact ⟨.inr, fun q => q.elim (fun e => e ▸ mem_once.mp h) id⟩
    · rw [List.mem_cons, List.mem_cons, mem_once]
theorem nodup_once : ∀ xs : List Int, (once xs).Nodup
  | [] => List.nodup_nil
  | x :: xs => by
    unfold once
    split
    · exact nodup_once xs
    · rename_i h
      exact List.nodup_cons.mpr ⟨h, nodup_once xs⟩
/-- each number once, ascending -/
def sortSet (ns : List Int) : List Int := (once ns).mergeSort fun a b => decide (a ≤ b)
def lSortSet (a : E) : EL := fun σ => bnd (a σ) fun x => look fun st => match seqOf st x with
  | some ds => (match intsOf ds with | some ns => if ns.length < 60 then some ((sortSet ns).map .int) else none | none => none)
  | none => none
theorem sortSet_eq {ns out : List Int} (h : out.Pairwise (· < ·)) (hm : ∀ k : Int, k ∈ out ↔ k ∈ ns) : out = sortSet ns := by
  have h1 : (sortSet ns).Perm (once ns) := List.mergeSort_perm _ _
  have h2 : (sortSet ns).Pairwise (· ≤ ·) := by
    have := List.pairwise_mergeSort (le := fun a b : Int => decide (a ≤ b)) (fun a b c h1 h2 => by simp at *; omega) (fun a b => by simp; omega) (once ns)
    exact this.imp fun h => by simpa using h
  have n1 : out.Nodup := h.imp fun h => Int.ne_of_lt h
  have n2 : (sortSet ns).Nodup := h1.nodup_iff.mpr (nodup_once ns)
  exact List.Perm.eq_of_pairwise (le := (· ≤ ·)) (fun a b _ _ h1 h2 => Int.le_antisymm h1 h2) (h.imp fun h => Int.le_of_lt h) h2 ((List.perm_ext_iff_of_nodup n1 n2).mpr fun k => by rw [hm, h1.mem_iff, mem_once])
theorem rints {K : PySem.W.Frag} {mg : Ctx} {μ : List Addr} {H : Hp} : ∀ ns : List Int, RDs K mg μ H (ns.map V.int) (ns.map D.int)
  | [] => .nil
  | _ :: ns => .cons (.int _) (rints ns)
theorem call_setL (hc : X.calm = true) : CallR X (.type "set") fun zs H Q => ∃ (b : Addr) (ns : List Int), zs = [V.ref b] ∧ (SqL X.K H b (ns.map V.int) ∨ SqT X.K H b (ns.map V.int)) ∧ ns.length < 60 ∧ ∀ q c, H q = none → c ≤ ns.length → Q (.ref q) (upd H q (SetO X.w q (fun j => decide (j ∈ ns)) c)) := by
  intro pins s σ H zs us Q I rz hz
  obtain ⟨b, ns, rfl, hs, hn, hq⟩ := hz
  obtain ⟨u, rfl, ru⟩ := rz.one
  cases ru
  have hb : ns.length + 1 < scanBound := by unfold scanBound; omega
  rcases hs with hs | hs
  · obtain ⟨its, rv, hl, hz⟩ := I.list hs
    refine set_of_list ns (I.ok.hd hc) hl.isList (by simpa using rv.ints) hb fun h' tk c R hle kp => ?_
    exact ⟨.ref s.heap.objs.size, _, I.laid (t' := tk) kp (Nat.le_refl _) (setO_new R), rfl, hq _ c (I.hok.fresh (Nat.le_refl _)) hle⟩
  · obtain ⟨its, rv, hl, hz⟩ := I.tuple hs
    refine call_set_tupI ns (I.ok.hd hc) hl (by simpa using rv.ints) hb fun h' tk c R hle kp => ?_
    exact ⟨.ref s.heap.objs.size, _, I.laid (t' := tk) kp (Nat.le_refl _) (setO_new R), rfl, hq _ c (I.hok.fresh (Nat.le_refl _)) hle⟩
theorem cl_sortSet (hc : X.calm = true) (hg : Gl X "sorted") (hm : X.mg "sorted" = none) (hg2 : Gl X "set") (hm2 : X.mg "set" = none) (ha : CE X B W a ma) (he : starEach (a :: []) X.env = (false, eval a X.env) :: starEach [] X.env := by rfl) (hpl : (backTo pos1 (starEach [] X.env)).any (·.1) = false := by rfl)
    (he2 : starEach (.Call (.Name "set" p1) [a] [] pos1 :: []) X.env = (false, eval (.Call (.Name "set" p1) [a] [] pos1) X.env) :: starEach [] X.env := by rfl) (hpl2 : (backTo pos (starEach [] X.env)).any (·.1) = false := by rfl) :
    CL X B W (.Call (.Name "sorted" p) [.Call (.Name "set" p1) [a] [] pos1] [] pos) (lSortSet ma) := by
  refine PE.imp (pe_callB (cr_sortedSet hc) hg hm boot_sorted (pa_cons (pe_callTy (call_setL hc) hg2 hm2 boot_set (pa_cons ha pa_nil he) (by decide) (by decide) he hpl) pa_nil he2) (by decide) (by decide) he2 hpl2) ?_
  rintro σ H Q ⟨μ, st, env, n, r, h, hq⟩
  refine first n h (resL_ex hq) fun d st1 μ1 H1 v h1 s1 n1 r1 => ?_
  obtain ⟨es, e2, rfl⟩ := look_inv h1
  split at e2
  · rename_i ds e3
    split at e2
    · rename_i ns e4
      split at e2
      · rename_i hlt
        cases e2
        obtain ⟨b, vs, rfl, hl, rds⟩ := seq_of n1.rel r1 e3
        cases intsOf_vs rds e4
        refine ⟨b, ns, rfl, hl, hlt, fun q c hn hle => ?_⟩
        refine ⟨q, _, c, rfl, upd_same, by omega, fun out p o1 o2 o3 hp => ?_⟩
        have e5 : out = sortSet ns := sortSet_eq o1 fun k => by rw [o2]; simp
        subst e5
        have n2 := n1.rel.laid (o := SetO X.w q (fun j => decide (j ∈ ns)) c) hn
        have s2 : Step μ H μ1 (upd H1 q (SetO X.w q (fun j => decide (j ∈ ns)) c)) := s1.trans n1.rel (Step.laid hn)
        obtain ⟨a1, a2, a3, a4, a5⟩ := laid_list n.rel s2 n2 (rints (sortSet ns)) hp
        exact hq _ _ _ _ a1 a2 a3 a4 a5
      · cases e2
    · cases e2
  · cases e2
end Mi
end
set_option Elab.async false
set_option linter.all false
set_option autoImplicit false
set_option maxRecDepth 100000
set_option maxHeartbeats 1000000
/-! Mi: sorted(set(x)) of a list of pairs of small whole numbers: the rule. -/
noncomputable section
namespace Mi
open PySem PySem.Spec PyProof.Rows L2
variable {X : Cx} {B : Base} {W : Wish} {a : Expr} {ma : E} {p p1 pos pos1 : Pos}
def pairsOf : List D → Option (List (Int × Int))
  | [] => some []
  | d :: ds => match d with
    | .tup [.int x, .int y] => (match pairsOf ds with | some ps => some ((x, y) :: ps) | none => none)
    | _ => none
def onceP : List (Int × Int) → List (Int × Int)
  | [] => []
  | x :: xs => if x ∈ onceP xs then onceP xs else x :: onceP xs
theorem mem_onceP {k : Int × Int} : ∀ {xs : List (Int × Int)}, k ∈ onceP xs ↔ k ∈ xs
  | [] => Iff.rfl
  | x :: xs => by
    unfold onceP
    split
    · rename_i h
      rw [mem_onceP, List.mem_cons]
      exact ⟨.inr, fun q => q.elim (fun e => e ▸ mem_onceP.mp h) id⟩
    · rw [List.mem_cons, List.mem_cons, mem_onceP]
theorem nodup_onceP : ∀ xs : List (Int × Int), (onceP xs).Nodup
  | [] => List.nodup_nil
  | x :: xs => by
    unfold onceP
    split
    · exact nodup_onceP xs
    · rename_i h
      exact List.nodup_cons.mpr ⟨h, nodup_onceP xs⟩
def codeP (q : Int × Int) : Int := q.1 * 64 + q.2
def smallP (q : Int × Int) : Bool := decide (0 ≤ q.1) && decide (q.1 < 64) && decide (0 ≤ q.2) && decide (q.2 < 64)
theorem smallP_of {q : Int × Int} (h : smallP q = true) : 0 ≤ q.1 ∧ q.1 < 64 ∧ 0 ≤ q.2 ∧ q.2 < 64 := by
  unfold smallP at h
  simp only [Bool.and_eq_true, decide_eq_true_eq] at h
  exact ⟨h.1.1.1, h.1.1.2, h.1.2, h.2⟩
theorem codeP_inj {p q : Int × Int} (h1 : smallP p = true) (h2 : smallP q = true) (e : codeP p = codeP q) : p = q := by
  have := smallP_of h1
  have := smallP_of h2
  unfold codeP at e
  exact Prod.ext (by omega) (by omega)
/-- each pair once, in order -/
def sortSetP (ps : List (Int × Int)) : List (Int × Int) := (onceP ps).mergeSort fun a b => decide (codeP a ≤ codeP b)
theorem mem_sortSetP {ps : List (Int × Int)} {k : Int × Int} : k ∈ sortSetP ps ↔ k ∈ ps := by
  exact (List.mergeSort_perm (onceP ps) _).mem_iff.trans mem_onceP
theorem sortSetP_eq {ps out : List (Int × Int)} (hb : ∀ q ∈ ps, smallP q = true) (hn : out.Nodup) (hs : out.Pairwise fun a b => codeP a ≤ codeP b) (hm : ∀ k, k ∈ out ↔ k ∈ ps) : out = sortSetP ps := by
  have h1 : (sortSetP ps).Perm (onceP ps) := List.mergeSort_perm _ _
  have h2 : (sortSetP ps).Pairwise fun a b => codeP a ≤ codeP b := by
    have := List.pairwise_mergeSort (le := fun a b : Int × Int => decide (codeP a ≤ codeP b)) (fun a b c h1 h2 => by simp at *; omega) (fun a b => by simp; omega) (onceP ps)
    exact this.imp fun h => by simpa using h
  exact List.Perm.eq_of_pairwise (le := fun a b => codeP a ≤ codeP b) (fun a b ha hb' h1 h2 => codeP_inj (hb a ((hm a).mp ha)) (hb b (mem_sortSetP.mp hb')) (Int.le_antisymm h1 h2)) hs h2 ((List.perm_ext_iff_of_nodup hn (h1.nodup_iff.mpr (nodup_onceP ps))).mpr fun k => by rw [hm, h1.mem_iff, mem_onceP])
def lSortSetT (a : E) : EL := fun σ => bnd (a σ) fun x => look fun st => match lstOf st x with
  | some ds => (match pairsOf ds with | some ps => if ps.length < 60 && ps.all smallP then some ((sortSetP ps).map fun q => .tup [.int q.1, .int q.2]) else none | none => none)
  | none => none
theorem pairs_vs {K : PySem.W.Frag} {mg : Ctx} {μ : List Addr} {H : Hp} : ∀ {vs : List V} {ds : List D} {ps : List (Int × Int)}, RDs K mg μ H vs ds → pairsOf ds = some ps →
    ∃ ks : List (Addr × List Int), vs = ks.map (fun q => V.ref q.1) ∧ ks.map (·.2) = ps.map (fun q => [q.1, q.2]) ∧ ∀ q ∈ ks, H q.1 = some (.tup (q.2.map V.int))
  | _, _, _, .nil, h => by cases h; exact ⟨[], rfl, rfl, fun _ h => nomatch h⟩
  | _, _, _, .cons (d := d) (ds := ds) r rs, h => by
    unfold pairsOf at h
    split at h
    · rename_i x y
      split at h
      · rename_i ps' e
        cases h
        obtain ⟨ks, rfl, e2, e3⟩ := pairs_vs rs e
        cases r with
        | tup ha rr =>
          cases rr with
          | cons r1 rr =>
            cases rr with
            | cons r2 rr =>
              cases rr
              cases r1
              cases r2
              refine ⟨(_, [x, y]) :: ks, rfl, by rw [List.map_cons, e2]; rfl, fun q hq => ?_⟩
              rcases List.mem_cons.mp hq with rfl | hq
              · exact ha
              · exact e3 q hq
      · cases h
    · cases h
theorem rtups {K : PySem.W.Frag} {mg : Ctx} {μ : List Addr} {H : Hp} : ∀ L : List (Addr × List Int), (∀ q ∈ L, H q.1 = some (.tup (q.2.map V.int))) → RDs K mg μ H (L.map fun q => V.ref q.1) (L.map fun q => D.tup (q.2.map D.int))
  | [], _ => .nil
  | q :: L, h => .cons (.tup (h q (.head _)) (rints q.2)) (rtups L fun r hr => h r (.tail _ hr))
theorem cl_sortSetT (hc : X.calm = true) (hu : X.A.units + 90 < cLine) (hg : Gl X "sorted") (hm : X.mg "sorted" = none) (hg2 : Gl X "set") (hm2 : X.mg "set" = none) (ha : CE X B W a ma) (he : starEach (a :: []) X.env = (false, eval a X.env) :: starEach [] X.env := by rfl) (hpl : (backTo pos1 (starEach [] X.env)).any (·.1) = false := by rfl)
    (he2 : starEach (.Call (.Name "set" p1) [a] [] pos1 :: []) X.env = (false, eval (.Call (.Name "set" p1) [a] [] pos1) X.env) :: starEach [] X.env := by rfl) (hpl2 : (backTo pos (starEach [] X.env)).any (·.1) = false := by rfl) :
    CL X B W (.Call (.Name "sorted" p) [.Call (.Name "set" p1) [a] [] pos1] [] pos) (lSortSetT ma) := by
  refine PE.imp (pe_callB (cr_sortedT hc) hg hm boot_sorted (pa_cons (pe_callTy (cr_setOfT hc (by omega)) hg2 hm2 boot_set (pa_cons ha pa_nil he) (by decide) (by decide) he hpl) pa_nil he2) (by decide) (by decide) he2 hpl2) ?_
  rintro σ H Q ⟨μ, st, env, n, r, h, hq⟩
  refine first n h (resL_ex hq) fun d st1 μ1 H1 v h1 s1 n1 r1 => ?_
  obtain ⟨es, e2, rfl⟩ := look_inv h1
  split at e2
  · rename_i ds e3
    split at e2
    · rename_i ps e4
      split at e2
      · rename_i hlt
        cases e2
        rw [Bool.and_eq_true, decide_eq_true_eq, List.all_eq_true] at hlt
        obtain ⟨hlt, hsm⟩ := hlt
        obtain ⟨b, vs, rfl, hl, rds⟩ := lst_of n1.rel r1 e3
        obtain ⟨ks, rfl, ek, eh⟩ := pairs_vs rds e4
        have hlen : ks.length = ps.length := by have := congrArg List.length ek; simpa using this
        have hkey : ∀ q ∈ ks, ∃ z ∈ ps, q.2 = [z.1, z.2] := fun q hq => by
          have : q.2 ∈ ks.map (·.2) := List.mem_map.mpr ⟨q, hq, rfl⟩
          rw [ek] at this
          obtain ⟨z, hz, e⟩ := List.mem_map.mp this
          exact ⟨z, hz, e.symm⟩
        refine ⟨b, ks, rfl, SqL.of hl, fun q hq => SqT.of (eh q hq), by omega, fun q L hn hL1 hL2 => ?_⟩
        have hH : ∀ r ∈ L, (upd H1 q (SetTO X.prog X.w q L)) r.1 = some (.tup (r.2.map V.int)) := fun r hr => by
          have h1 := eh r (hL1 r hr)
          rw [upd_ne (fun e => by rw [e, hn] at h1; cases h1)]
          exact h1
        refine ⟨q, L, 2, 64, rfl, upd_same, fun r hr => SqT.of (hH r hr), by decide, fun r hr => ?_, fun L' p hp hnd _ hpw hpn => ?_⟩
        · obtain ⟨z, hz, e⟩ := hkey r (hL1 r hr)
          have := smallP_of (hsm z hz)
          rw [e]
          refine ⟨rfl, fun m hm => ?_⟩
          simp only [List.mem_cons, List.not_mem_nil, or_false] at hm
          rcases hm with rfl | rfl <;> omega
        · have hkey' : ∀ r ∈ L', ∃ z ∈ ps, r.2 = [z.1, z.2] := fun r hr => hkey r (hL1 r (hp.mem_iff.mp hr))
          let f : Addr × List Int → Int × Int := fun r => (r.2.getD 0 0, r.2.getD 1 0)
          have hf : ∀ r ∈ L', r.2 = [(f r).1, (f r).2] := fun r hr => by
            obtain ⟨z, hz, e⟩ := hkey' r hr
            show r.2 = [r.2.getD 0 0, r.2.getD 1 0]
            rw [e]; rfl
          have e5 : L'.map f = sortSetP ps := by
            refine sortSetP_eq hsm ?_ ?_ fun k => ?_
            · refine List.pairwise_map.mpr (List.Pairwise.imp_of_mem (fun {r t} hr ht hne e => hne ?_) (List.pairwise_map.mp hnd))
              rw [hf r hr, hf t ht, e]
            · refine List.pairwise_map.mpr (List.Pairwise.imp_of_mem (fun {r t} hr ht hle => ?_) hpw)
              rw [hf r hr, hf t ht, code_pair, code_pair] at hle
              exact hle
            · rw [List.mem_map]
              constructor
              · rintro ⟨r, hr, rfl⟩
                obtain ⟨z, hz, e⟩ := hkey' r hr
                have : f r = z := by show (r.2.getD 0 0, r.2.getD 1 0) = z; rw [e]; rfl
                rw [this]; exact hz
              · intro hk
                have : [k.1, k.2] ∈ ks.map (·.2) := by rw [ek]; exact List.mem_map.mpr ⟨k, hk, rfl⟩
                obtain ⟨r0, hr0, e0⟩ := List.mem_map.mp this
                obtain ⟨r, hr, e⟩ := List.mem_map.mp (hL2 r0 hr0)
                refine ⟨r, hp.mem_iff.mpr hr, ?_⟩
                show (r.2.getD 0 0, r.2.getD 1 0) = k
                have e' : r.2 = [k.1, k.2] := e.trans e0
                rw [e']; rfl
          have n2 := n1.rel.laid (o := SetTO X.prog X.w q L) hn
          have s2 : Step μ H μ1 (upd H1 q (SetTO X.prog X.w q L)) := s1.trans n1.rel (Step.laid hn)
          have rt : RDs X.K { g := X.nm, ρ := B.ρ } μ1 (upd H1 q (SetTO X.prog X.w q L)) (L'.map fun q => V.ref q.1) ((sortSetP ps).map fun z => D.tup [.int z.1, .int z.2]) := by
            rw [← e5, List.map_map]
            have : (L'.map ((fun z : Int × Int => D.tup [.int z.1, .int z.2]) ∘ f)) = L'.map fun r => D.tup (r.2.map D.int) := List.map_congr_left fun r hr => by
              show D.tup [.int (f r).1, .int (f r).2] = D.tup (r.2.map D.int)
              conv => rhs; rw [hf r hr]
              rfl
            rw [this]
            exact rtups L' fun r hr => hH r (hp.mem_iff.mp hr)
          obtain ⟨a1, a2, a3, a4, a5⟩ := laid_list n.rel s2 n2 rt hpn
          exact hq _ _ _ _ a1 a2 a3 a4 a5
      · cases e2
    · cases e2
  · cases e2
end Mi
end
set_option Elab.async false
set_option linter.all false
set_option autoImplicit false
set_option maxRecDepth 100000
set_option maxHeartbeats 1000000
/-! Mi: xs.remove(x), any plain x. -/
noncomputable section
namespace Mi
open PySem PySem.Spec PyProof.Rows L2
def sRemD (o e : E) : S := fun σ => sBnd (bnd (eLoc o σ) fun l => bnd (e σ) fun d => ret (l, d)) σ fun p st => match st[p.1]? with
  | some (.lst ds) => (match toPys st ds, toPy st p.2 with
    | some ps, some q => if q.depth ≤ 64 then (match SeqAt.dataPlace ps q with
      | some j => some (.nx σ (st.set p.1 (.lst (ds.eraseIdx j))))
      | none => none) else none
    | _, _ => none)
  | _ => none
section
variable {X : Cx} {B : Base} {W : Wish} {o e : Expr} {mo m : E} {pos : Pos}
def rRemD (K : PySem.W.Frag) : V → List V → Hp → VK → Prop := fun x xs H Q => ∃ (l : Addr) (vs : List V) (v : V) (ps : List PyData) (p : PyData) (j : Nat), x = .ref l ∧ xs = [v] ∧ H l = some (.lst vs) ∧ DpAll K H vs ps ∧ Dp K H v p ∧ PyData.plainAll ps = true ∧ p.plain = true ∧ p.depth ≤ 64 ∧ SeqAt.dataPlace ps p = some j ∧ Q .non (upd H l (.lst (vs.eraseIdx j)))
theorem mt_removeD (hu : X.A.units + 90 < cLine) : MtM X "list.remove" (rRemD X.K) := by
  intro pins s σ H x xs v us Q I rx rxs h
  obtain ⟨l, vs, w, ps, p, j, rfl, rfl, hH, dps, dp, pl, pp, hd, hj, q⟩ := h
  cases rx
  obtain ⟨u, rfl, ru⟩ := rxs.one
  obtain ⟨z, its, n, r, hl, e⟩ := I.lstM hH
  obtain ⟨as, rs⟩ := Dp.readsAll I ps vs its dps r
  obtain ⟨bs, rp⟩ := Dp.reads I p w u dp ru
  refine SeqAt.remove_list_data (vs := its.toArray) ⟨_, e, rfl, n, rfl⟩ (by simpa using rs) rp pl pp (by omega) hj (by rw [List.size_toArray, ← r.length]; exact z) ?_
  have rr := r.eraseIdx j
  refine ⟨.non, _, I.lset (its' := its.eraseIdx j) (t' := s.toks) hH e ?_ rr ?_, rfl, q⟩
  · show its.toArray.eraseIdxIfInBounds j = (its.eraseIdx j).toArray
    rw [List.eraseIdxIfInBounds_toArray]
  · have z2 := List.length_eraseIdx_le vs j
    omega
theorem cs_remD {apos : Pos} (hu : X.A.units + 90 < cLine) (ho : CE X B W o mo) (he : CE X B W e m) (hbase : attributeBase o "remove" X.env (eval o X.env) = eval o X.env := by rfl) (hline : (apos.endLine == pos.line) = true := by rfl)
    (hfew : ((backTo pos (starEach (e :: []) X.env)).all (fun x => !x.1) && (backToKw pos (keywordEach [] X.env)).all (fun x => x.1.isSome)
      && decide ((e :: []).length + ([] : List Keyword).length + (if ([] : List Keyword).isEmpty then 0 else 1) < 30)) = true := by rfl)
    (he1 : starEach (e :: []) X.env = (false, eval e X.env) :: starEach [] X.env := by rfl) (hpl : (backTo pos (starEach [] X.env)).any (·.1) = false := by rfl) {pos2 : Pos} (hs2 : swapsWith (.Call (.Attribute o "remove" apos) [e] [] pos) none pos2.line X.env = pure false := by rfl) :
    CS X B W (.Expr (.Call (.Attribute o "remove" apos) [e] [] pos) pos2) (sRemD mo m) := by
  refine PS.imp (ps_expr (pe_bm PySem.F.plainAttrs_list PySem.F.slot_list_remove PySem.F.type_list_remove (mt_removeD hu) ho (pa_cons he pa_nil he1) hbase hfew hline he1 hpl) hs2) ?_
  rintro D σ H ⟨μ, st, env, n, r, h, hq⟩
  unfold sRemD at h
  rcases sBnd_inv h with ⟨p, st1, e1, h1⟩ | ⟨x, st1, e1, rfl⟩
  · refine loc_first (W := W) n e1 (fun x st1 z => nomatch z) fun l a ds st2 μ1 H1 h2 s1 n1 ha hl => ?_
    refine ⟨tyV_list n1.rel (.loc ha) hl, ?_⟩
    refine first n1 h2 (fun x st1 z => nomatch z) fun d st3 μ2 H2 v h3 s2 n2 r2 => ?_
    cases ret_inv h3
    dsimp only at h1
    split at h1
    · rename_i ds2 hl2
      split at h1
      · rename_i ps q e3 e4
        split at h1
        · rename_i hd
          split at h1
          · rename_i j hj
            cases h1
            have ha2 := s2.idx ha
            obtain ⟨vs, q1, q2⟩ := n2.rel.obj _ _ _ ha2 hl2
            refine ⟨a, vs, v, ps, q, j, rfl, rfl, q1, dps_of n2.rel q2 e3, dp_of n2.rel r2 e4, toPys_plain e3, toPy_plain e4, hd, hj, ?_⟩
            have s3 : Step μ2 H2 μ2 (upd H2 a (.lst (vs.eraseIdx j))) := Step.put ha2
            have R3 := n2.rel.put ha2 (q2.erase j)
            exact hq _ _ _ ((s1.trans n1.rel s2).trans n2.rel s3) R3 (n2.env.step n2.rel s3)
          · cases h1
        · cases h1
      · cases h1
    · cases h1
  · refine loc_first (W := W) n e1 (fun x' st1' z => by cases z; exact hq) fun l a ds st2 μ1 H1 h2 s1 n1 ha hl => ?_
    refine ⟨tyV_list n1.rel (.loc ha) hl, ?_⟩
    refine first n1 h2 (fun x' st1' z => by cases z; exact hq) fun d st3 μ2 H2 v h3 s2 n2 r2 => ?_
    cases ret_inv h3
end
end Mi
end
set_option Elab.async false
set_option linter.all false
set_option autoImplicit false
set_option maxRecDepth 100000
/-! Mi: a, b, c = x, y, z; is True, is not True. -/
noncomputable section
namespace Mi
open PySem PySem.Spec PyProof.Rows L2
def sPar3 (i j l : Nat) (es : EL) : S := fun σ => sBnd (es σ) σ fun ds st => match ds with
  | [x, y, z] => some (.nx (((σ.set i (some x)).set j (some y)).set l (some z)) st)
  | _ => none
section
variable {X : Cx} {B : Base} {W : Wish}
theorem cs_par3 {i j l : Nat} {x y z : Str} {a b c : Expr} {mr : EL} {px py pz pt : Pos} {kt k2 pt2} {pos : Pos} (hc : X.calm = true) (hN : X.N.Nodup) (hi : X.N[i]? = some x) (hj : X.N[j]? = some y) (hl : X.N[l]? = some z) (hij : i ≠ j) (hil : i ≠ l) (hjl : j ≠ l)
    (hx : X.env.scope.names.lookup x = some .local) (hy : X.env.scope.names.lookup y = some .local) (hz : X.env.scope.names.lookup z = some .local) (ha : CA X B W [a, b, c] mr)
    (hw : swappedStores [.Tuple [.Name x px, .Name y py, .Name z pz] kt pt] (.Tuple [a, b, c] k2 pt2) X.env = pure (some [x, y, z]) := by rfl)
    (hs : swapsWithSole [.Tuple [.Name x px, .Name y py, .Name z pz] kt pt] (.Tuple [a, b, c] k2 pt2) pos.line X.env = pure false := by rfl) :
    CS X B W (.Assign [.Tuple [.Name x px, .Name y py, .Name z pz] kt pt] (.Tuple [a, b, c] k2 pt2) pos) (sPar3 i j l mr) := by
  refine PS.imp (ps_par3 hc hN hi hj hl hij hil hjl hx hy hz ha hw hs) ?_
  rintro D σ H ⟨μ, st, env, n, r, h, hq⟩
  unfold sPar3 at h
  rcases sBnd_inv h with ⟨ds, st1, e1, h1⟩ | ⟨x, st1, e1, rfl⟩
  · refine ⟨μ, st, env, n, _, e1, fun μ1 H1 vs s1 R1 rs => ?_⟩
    split at h1
    · cases h1
      cases rs with
      | cons r1 rs =>
        cases rs with
        | cons r2 rs =>
          cases rs with
          | cons r3 rs =>
            cases rs
            have n1 := n.next s1 R1
            exact ⟨_, _, _, rfl, hq _ _ _ s1 R1 (((n1.env.set r1).set r2).set r3)⟩
    · cases h1
  · exact ⟨μ, st, env, n, _, e1, hq⟩
theorem cg_set3 {i j l k : Nat} {x y z : Str} {p1 p2 p3 pos : Pos} (hc : X.calm = true) (hN : X.N.Nodup) (hi : X.N[i]? = some x) (hx : Loc X.env.scope x) (hj : X.N[j]? = some y) (hy : Loc X.env.scope y) (hl : X.N[l]? = some z) (hz : Loc X.env.scope z)
    (hfx : X.fn x = true ∨ X.env.scope.names.lookup x = some .local := by first | exact .inl rfl | exact .inr rfl | assumption) (hfy : X.fn y = true ∨ X.env.scope.names.lookup y = some .local := by first | exact .inl rfl | exact .inr rfl | assumption) (hfz : X.fn z = true ∨ X.env.scope.names.lookup z = some .local := by first | exact .inl rfl | exact .inr rfl | assumption)
    (hs : (assignEach (.Name x p1 :: [.Name y p2, .Name z p3]) X.env).map (·.2) = assign (.Name x p1) X.env :: (assignEach [.Name y p2, .Name z p3] X.env).map (·.2) := by rfl) (hs2 : (assignEach (.Name y p2 :: [.Name z p3]) X.env).map (·.2) = assign (.Name y p2) X.env :: (assignEach [.Name z p3] X.env).map (·.2) := by rfl)
    (hs3 : (assignEach (.Name z p3 :: []) X.env).map (·.2) = assign (.Name z p3) X.env :: (assignEach [] X.env).map (·.2) := by rfl)
    (hn : (assignEach [.Name x p1, .Name y p2, .Name z p3] X.env).length = 3 := by rfl) (hst : (assignEach [.Name x p1, .Name y p2, .Name z p3] X.env).findIdx? (·.1) = none := by rfl) :
    CG X (.Tuple [.Name x p1, .Name y p2, .Name z p3] k pos) [i, j, l] (gSet3 i j l) := by
  refine PG.imp (pg_tup hc (pgs_cons (pg_name hN hi hx hfx) (pgs_cons (pg_name hN hj hy hfy) (pgs_cons (pg_name hN hl hz hfz) pgs_nil hs3) hs2) hs) hn hst) ?_
  rintro v σ H Q ⟨ρ, μ, st, env, d, env', R, re, rd, hg, hq⟩
  unfold gSet3 at hg
  split at hg
  · split at hg
    · cases hg
      cases rd with
      | tup ha r =>
        cases r with
        | cons r1 r =>
          cases r with
          | cons r2 r =>
            cases r with
            | cons r3 r =>
              cases r
              refine ⟨_, _, rfl, SqT.of ha, rfl, _, _, rfl, _, _, rfl, _, _, rfl, rfl, ?_⟩
              refine hq _ (((re.set r1).set r2).set r3) (by simp) fun m hm => ?_
              rw [List.getElem?_set_ne (fun z => hm (by simp [z])), List.getElem?_set_ne (fun z => hm (by simp [z])), List.getElem?_set_ne (fun z => hm (by simp [z]))]
    · cases hg
  · cases hg
/-- is, is not: None or a flag on the right; a flag on the left there -/
def dIsC (st : Store) (x y : D) : Option Bool := match x, y with
  | .bl a, .bl b => some (decide (a = b))
  | _, _ => none
def dIsNotC (st : Store) (x y : D) : Option Bool := match x, y with
  | .bl a, .bl b => some (!decide (a = b))
  | _, _ => none
theorem cmp_isC : CmpS X .Is dIsC := by
  refine ⟨_, op_isBl, ?_⟩
  intro ρ μ st H v u x y k Q R rv ru h q
  cases x <;> cases y <;> simp only [dIsC] at h <;> try (cases h; done)
  cases h; cases rv; cases ru
  exact ⟨_, _, rfl, rfl, q⟩
theorem cmp_isNotC : CmpS X .IsNot dIsNotC := by
  refine ⟨_, op_notBl, ?_⟩
  intro ρ μ st H v u x y k Q R rv ru h q
  cases x <;> cases y <;> simp only [dIsNotC] at h <;> try (cases h; done)
  cases h; cases rv; cases ru
  exact ⟨_, _, rfl, rfl, q⟩
end
end Mi
end
set_option Elab.async false
set_option linter.all false
set_option autoImplicit false
set_option maxRecDepth 100000
set_option maxHeartbeats 1000000
/-! Mi: sorted of a list of tuples whose first one is empty. -/
noncomputable section
namespace PySem.SeqAt
open PySem PyProof.Rows
section
variable {A : Around} {s : Shared}
theorem call_tuple_lt0 {prog : Program} {w : World} {E : Value → Shared → Prop} {Q : Value → Shared → Prop} {l b : Addr} {items items2 : Array Value} {e r : Nat → Bool} (hl : s.heap.IsTuple l items) (hb : s.heap.IsTuple b items2)
    (he : ∀ j (h1 : j < items.size) (h2 : j < items2.size), EqAt A.in1 s items[j] items2[j] (e j)) (hr : ∀ j (h1 : j < items.size) (h2 : j < items2.size), e j = false → RcLt A.in1 s items[j] items2[j] (r j))
    (h : Q (.bool (firstLt e r (decide (items.size < items2.size)) (List.range (min items.size items2.size)))) s) : wpAny (model prog w) A (call (.builtin "tuple.__lt__") [.ref l, .ref b]) Q E s := by
  obtain ⟨⟨cls, dd, data, sl⟩, ho, hc, n, hd⟩ := id hl
  obtain ⟨⟨cls2, dd2, data2, sl2⟩, ho2, hc2, n2, hd2⟩ := id hb
  simp only at hc hd hc2 hd2
  subst hc hd hc2 hd2
  exact call_meets F.slot_tuple_lt ⟨_, ho, rfl⟩ F.entry_tuple_lt (F.args_tuple_lt_2 _ _) (tuple_ltAt l b items items2 n n2 dd dd2 sl sl2 e r) ⟨ho, ho2, he, hr, h⟩
end
end PySem.SeqAt
namespace PySem.W
open PySem PySem.SeqAt PyProof.Rows
section
variable {prog : Program} {w : World} {A : Around} {E : Value → Shared → Prop} {s : Shared}
theorem oneLt_tup {xs ys : List PyData} {a b : Value} {as bs : List Addr} {Q : Bool → Shared → Prop} (ra : Reads s.heap a (.tuple xs) as) (rb : Reads s.heap b (.tuple ys) bs) (h : alike (.tuple xs) (.tuple ys) = true)
    (hu : A.units + min (PyData.tuple xs).depth (PyData.tuple ys).depth < cLine) (hq : Q (dataLt (.tuple xs) (.tuple ys)) s) : wpAny (model prog w) A (oneLt' true a b) Q E s := by
  have hal : alikeAll xs ys = true := by simpa [alike] using h
  cases ra with
  | @tuple l o vs n _ as₁ h1 h2 h3 h4 =>
    cases rb with
    | @tuple l' o' vs' n' _ bs₁ k1 k2 k3 k4 =>
      have n1 : vs.size = xs.length := by simpa using ReadsAll.length _ _ _ h4
      have n2 : vs'.size = ys.length := by simpa using ReadsAll.length _ _ _ k4
      rw [dataLt_tuple, ← firstLt_toks xs ys hal, ← n1, ← n2] at hq
      rw [oneLt'_eq]
      simp only [if_true]
      refine wpAny_bind (wpAny_cRoomFor (room_here hu) ?_)
      refine wpAny_bind (wpAny_callSpecialIfBound?_slot (T := "tuple") ⟨_, h1, h2⟩ F.slot_tuple_lt (call_tuple_lt0 (e := pairEq xs ys) (r := fun j => dataLt (xs.getD j .none) (ys.getD j .none)) ⟨_, h1, h2, _, h3⟩ ⟨_, k1, k2, _, k3⟩ (fun j j1 j2 => ?_) (fun j j1 j2 hj => ?_) ?_))
      · have := eqAt_alikeAll xs ys A.in1 s vs.toList vs'.toList _ _ h4 k4 hal (room_in hu) j (by simpa using j1) (by simpa using j2)
        simpa using this
      · have := rcLt_alikeAll xs ys A.in1 s vs.toList vs'.toList _ _ h4 k4 hal (room_in hu) j (by simpa using j1) (by simpa using j2) hj
        simpa using this
      · exact wpAny_truthy_bool hq
end
section
variable {M : Model} {A : Around} {E : Value → Shared → Prop} {s : Shared}
def IsTupV (h : Heap) (v : Value) : Prop := ∃ (a : Addr) (o : Obj) (xs : Array Value) (n : Nat), v = .ref a ∧ h.get? a = some o ∧ o.cls = .type "tuple" ∧ o.data = .seq xs n
theorem firsts0 : ∀ (vs : List Value), (∀ v ∈ vs, IsTupV s.heap v) → ∃ os : List (Option Value), ∀ Q : List (Option Value) → Shared → Prop, Q os s → wpAny M A (vs.mapM firstOfTuple') Q E s
  | [], _ => ⟨[], fun Q h => by rw [List.mapM_nil]; exact wpAny_pure h⟩
  | v :: vs, ht => by
    obtain ⟨os, ih⟩ := firsts0 vs fun u hu => ht u (.tail _ hu)
    obtain ⟨a, o, xs, n, rfl, ho, hc, hd⟩ := ht v (.head _)
    refine ⟨xs[0]? :: os, fun Q h => ?_⟩
    rw [List.mapM_cons]
    refine wpAny_bind ?_
    rw [kas_first_eq]
    refine wpAny_bind (Looks.here (show Looks M s.heap (typeOf (.ref a)) o.cls from (Looks.ld ho).andThen .now) ?_)
    rw [hc, if_neg (by first | decide | simp)]
    refine wpAny_bind (listItems_at ho hd (wpAny_pure ?_))
    exact wpAny_bind (ih (fun bs s' => wpAny M A (pure (xs[0]? :: bs)) Q E s') (wpAny_pure h))
theorem kind_tup0 {a : Addr} {o : Obj} {n : Nat} {vs : List Value} {Q : SortKind → Shared → Prop} (ho : s.heap.get? a = some o) (hc : o.cls = .type "tuple") (hd : o.data = .seq #[] n) (ht : ∀ v ∈ vs, IsTupV s.heap v) (h : Q oneType' s) :
    wpAny M A (keyKind' (.ref a :: vs).toArray) Q E s := by
  obtain ⟨os, hos⟩ := firsts0 (M := M) (A := A) (E := E) (s := s) vs ht
  have hT : ∀ v ∈ (Value.ref a :: vs), Looks M s.heap (typeOf v) (.type "tuple") := fun v hv => by
    have : IsTupV s.heap v := by
      rcases List.mem_cons.mp hv with rfl | hv
      · exact ⟨a, o, _, n, rfl, ho, hc, hd⟩
      · exact ht v hv
    obtain ⟨b, o', xs, m, rfl, ho', hc', hd'⟩ := this
    exact hc' ▸ (Looks.ld ho').andThen .now
  rw [kat_kind_eq, List.mapM_toArray, map_eq_pure_bind]
  have hm : ∀ Q : List (Option Value) → Shared → Prop, Q (none :: os) s → wpAny M A ((Value.ref a :: vs).mapM firstOfTuple') Q E s := fun Q h => by
    rw [List.mapM_cons]
    refine wpAny_bind ?_
    rw [kas_first_eq]
    refine wpAny_bind (Looks.here (show Looks M s.heap (typeOf (.ref a)) o.cls from (Looks.ld ho).andThen .now) ?_)
    rw [hc, if_neg (by first | decide | simp)]
    refine wpAny_bind (listItems_at ho hd (wpAny_pure ?_))
    exact wpAny_bind (hos (fun bs s' => wpAny M A (pure (none :: bs)) Q E s') (wpAny_pure h))
  refine wpAny_bind (wpAny_bind (hm _ (wpAny_pure ?_)))
  rw [if_neg (by simp), if_neg (by simp)]
  rw [oneTypeOnly'_eq, List.mapM_toArray, map_eq_pure_bind]
  refine wpAny_bind (wpAny_bind (wpAny_bind (kas_mapM (r := Value.type "tuple") _ (fun v hv Q' hq => (hT v hv).here hq) (wpAny_pure ?_))))
  have hall : ((List.map (fun _ => Value.type "tuple") (Value.ref a :: vs)).toArray.all fun x => x == Value.type "tuple") = true := by
    simp only [List.all_toArray, List.all_map, List.all_eq_true]
    intro _ _
    first | rfl | decide
  have h0 : (List.map (fun _ => Value.type "tuple") (Value.ref a :: vs)).toArray[0]? = some (Value.type "tuple") := by simp
  rw [h0]
  simp only [hall, if_true]
  exact wpAny_pure (wpAny_pure h)
end
section
variable {prog : Program} {w : World} {A : Around} {s : Shared}
theorem isTup_reads {v : Value} {xs : List PyData} {as : List Addr} (r : Reads s.heap v (.tuple xs) as) : IsTupV s.heap v := by
  cases r with
  | tuple h1 h2 h3 h4 => exact ⟨_, _, _, _, rfl, h1, h2, h3⟩
theorem SortsAt.tups0 {vs : List Value} {ds : List PyData} (e : EachIs (fun v d => ∃ as, Reads s.heap v d as) vs (.tuple [] :: ds)) (hal : AllAlike (.tuple [] :: ds)) (ht : ∀ d ∈ ds, ∃ xs, d = .tuple xs) (hu : ∀ d, d ∈ PyData.tuple [] :: ds → A.units + d.depth < cLine) : SortsAt prog w A s (dataKind s.heap (.tuple [] :: ds)) vs := by
  have ht' : ∀ d ∈ PyData.tuple [] :: ds, ∃ xs, d = .tuple xs := fun d hd => by
    rcases List.mem_cons.mp hd with rfl | hd
    · exact ⟨[], rfl⟩
    · exact ht d hd
  have room : ∀ {d d' : PyData}, d ∈ PyData.tuple [] :: ds → A.units + min d.depth d'.depth < cLine := fun {d d'} hd => Nat.lt_of_le_of_lt (Nat.add_le_add_left (Nat.min_le_left _ _) _) (hu d hd)
  refine ⟨fun v hv => ?_, oneType', ?_, fun _ E Q hq => ?_⟩
  · obtain ⟨d, hd, as, r⟩ := e.left v hv
    exact ⟨_, dataKind_some hal hd r⟩
  · intro E x y a b Q ha hb hq
    obtain ⟨d, as, hd, ra, rfl⟩ := dataKind_inv ha
    obtain ⟨d', as', hd', rb, rfl⟩ := dataKind_inv hb
    have hdd := hal d hd d' hd'
    have hroom := room (d' := d') hd
    obtain ⟨x1, rfl⟩ := ht' d hd
    obtain ⟨x2, rfl⟩ := ht' d' hd'
    rw [keyLt'_oneType]
    exact oneLt_tup ra rb hdd hroom hq
  · cases e with
    | @cons v b vs ds r t =>
      obtain ⟨as, r⟩ := r
      have htl : ∀ u ∈ vs, IsTupV s.heap u := fun u hu => by
        obtain ⟨d, hd, as, r⟩ := t.left u hu
        obtain ⟨xs, rfl⟩ := ht d hd
        exact isTup_reads r
      cases r with
      | @tuple l o us n _ as₁ g1 g2 g3 g4 =>
        have hus : us = #[] := by
          have := ReadsAll.length _ _ _ g4
          have h0 : us.toList = [] := List.length_eq_zero_iff.mp (by simpa using this)
          rw [← Array.toArray_toList (xs := us), h0]
        subst hus
        exact kind_tup0 g1 g2 g3 htl hq
end
end PySem.W
namespace Mi
open PySem PySem.Spec PyProof.Rows L2
def isTupA : PyData → Bool
  | .tuple _ => true
  | _ => false
def emptyHead : List PyData → Bool
  | .tuple [] :: _ => true
  | _ => false
def sortD0 (st : Store) (ds : List D) : Option (List D) := match toPys st ds with
  | some xs => if alikeB xs && (emptyHead xs && xs.all isTupA) && okLen xs.length && xs.all (fun x => decide (x.depth ≤ 64)) then
      some (((ds.zip xs).mergeSort (PySem.W.dataLe false (·.2))).map (·.1)) else none
  | none => none
/-- sorted(x): a list of tuples, the first one empty -/
def lSort0 (a : E) : EL := fun σ => bnd (a σ) fun x => look fun st => match lstOf st x with | some ds => sortD0 st ds | none => none
def rSort0 (K : PySem.W.Frag) : List V → Hp → VK → Prop := fun xs H Q => ∃ (mg : Ctx) (μ : List Addr) (st : Store) (a : Addr) (vs : List V) (ds : List D) (ps : List PyData), xs = [.ref a] ∧ Rel K mg μ st H ∧ SqL K H a vs ∧ RDs K mg μ H vs ds ∧ DpAll K H vs ps ∧ alikeB ps = true ∧ (emptyHead ps = true ∧ ps.all isTupA = true) ∧ ps.length ≤ 16777216 ∧ (∀ q ∈ ps, q.depth ≤ 64) ∧
  ∀ p ws, H p = none → RDs K mg μ H ws (((ds.zip ps).mergeSort (PySem.W.dataLe false (·.2))).map (·.1)) → Q (.ref p) (upd H p (.lst ws))
section
variable {X : Cx} {B : Base} {W : Wish} {a : Expr} {ma : E} {p pos : Pos}
theorem call_sort0 (hu : X.A.units + 90 < cLine) : CallR X (.builtin "sorted") (rSort0 X.K) := by
  intro pins s σ H xs us Q I r h
  obtain ⟨mg, μ, st, a, vs, ds, ps, rfl, R, hs, rds, dps, hal, ⟨hh, ha⟩, hlen, hdp, q⟩ := h
  obtain ⟨u, rfl, rx⟩ := vals1 r
  cases rx
  obtain ⟨its, rv, hl, hz⟩ := I.list hs
  obtain ⟨e1, e2⟩ := sort_src rfl I rds rv dps
  have hlz : ds.length = ps.length := by rw [← rds.length, dpAll_len dps]
  have hzl : (ds.zip ps).length = ps.length := by rw [List.length_zip, hlz, Nat.min_self]
  have hmap := zip_snd hlz
  have hal' : PySem.W.AllAlike ((ds.zip ps).map (·.2)) := by
    rw [hmap]
    intro d hd d' hd'
    exact List.all_eq_true.mp (List.all_eq_true.mp hal d hd) d' hd'
  have hne : ∃ ps', ps = .tuple [] :: ps' := by
    unfold emptyHead at hh
    split at hh
    · exact ⟨_, rfl⟩
    · cases hh
  obtain ⟨ps', hps⟩ := hne
  have htu : ∀ d ∈ ps', ∃ xs, d = PyData.tuple xs := fun d hd => by
    have := List.all_eq_true.mp ha d (by rw [hps]; exact .tail _ hd)
    unfold isTupA at this
    split at this
    · exact ⟨_, rfl⟩
    · cases this
  have er' : PySem.W.EachIs (fun v b => ∃ as, Reads (PySem.W.sortingHeap (PySem.W.copyHeap s.heap its) (s.heap.objs.size + 1) its) v (Prod.snd b) as) its (ds.zip ps) := e2.mono fun _ _ ⟨as, r⟩ => ⟨as, PyProof.Rows.Reads.keeps (fun _ _ => PySem.W.sorting_copy_old) r⟩
  have em := PySem.W.each_map (R := fun v d => ∃ as, Reads (PySem.W.sortingHeap (PySem.W.copyHeap s.heap its) (s.heap.objs.size + 1) its) v d as) (fun b : D × PyData => b.2) er'
  have hub : ∀ d, d ∈ (ds.zip ps).map (fun b : D × PyData => b.2) → X.A.in1.in1.units + d.depth < cLine := fun d hd => by
    rw [hmap] at hd
    have := hdp d hd
    have : X.A.in1.in1.units = X.A.units + 2 := rfl
    omega
  have S : PySem.W.SortsAt X.prog X.w X.A.in1.in1 { s with heap := PySem.W.sortingHeap (PySem.W.copyHeap s.heap its) (s.heap.objs.size + 1) its } (PySem.W.dataKind (PySem.W.sortingHeap (PySem.W.copyHeap s.heap its) (s.heap.objs.size + 1) its) ((ds.zip ps).map fun b : D × PyData => b.2)) its := by
    have hmap' : ((ds.zip ps).map fun b : D × PyData => b.2) = ps := hmap
    rw [hmap', hps] at em hub hal' ⊢
    exact PySem.W.SortsAt.tups0 em hal' htu hub
  refine PySem.W.sorted_vals hl.isList S (by rw [← rv.length]; exact hz) ?_
  have eo := PySem.W.sortVals_data (enc := fun b : D × PyData => b.2) false e1 er' hal'
  obtain ⟨ws, w1, w2⟩ := sortR_out eo
  obtain ⟨ep, he'⟩ := PyProof.Rows.sortedAll_at s.heap its _
  have hlw : ws.length ≤ sizeLine := by
    rw [w1.length, PySem.W.sortVals_length false rfl, ← rv.length]; exact hz
  exact ⟨.ref _, upd H (s.heap.objs.size + 1) (.lst ws), I.laid (t' := s.toks) (fun _ _ => PyProof.Rows.sortedAll_old) (Nat.le_succ _) ⟨hlw, _, ep, w1, he'⟩, rfl, q _ ws (I.hok.fresh (Nat.le_succ _)) w2⟩
theorem cl_sort0 (hu : X.A.units + 90 < cLine) (hg : Gl X "sorted") (hm : X.mg "sorted" = none) (ha : CE X B W a ma) (he : starEach (a :: []) X.env = (false, eval a X.env) :: starEach [] X.env := by rfl) (hpl : (backTo pos (starEach [] X.env)).any (·.1) = false := by rfl) :
    CL X B W (.Call (.Name "sorted" p) [a] [] pos) (lSort0 ma) := by
  refine PE.imp (pe_callB (call_sort0 hu) hg hm boot_sorted (pa_cons ha pa_nil he) (by decide) (by decide) he hpl) ?_
  rintro σ H Q ⟨μ, st, env, n, r, h, hq⟩
  refine first n h (resL_ex hq) fun d st1 μ1 H1 v h1 s1 n1 r1 => ?_
  obtain ⟨es, e2, rfl⟩ := look_inv h1
  split at e2
  · rename_i ds e3
    obtain ⟨a, vs, rfl, hl, rds⟩ := lst_of n1.rel r1 e3
    unfold sortD0 at e2
    split at e2
    · rename_i ps e4
      split at e2
      · rename_i hc
        cases e2
        simp only [Bool.and_eq_true] at hc
        refine ⟨⟨X.nm, B.ρ⟩, μ1, st1, a, vs, ds, ps, rfl, n1.rel, SqL.of hl, rds, dps_of n1.rel rds e4, hc.1.1.1, hc.1.1.2, of_decide_eq_true ((okLen_eq _).symm.trans hc.1.2), fun q hq => of_decide_eq_true (List.all_eq_true.mp hc.2 q hq), fun p ws hp rw' => ?_⟩
        obtain ⟨a1, a2, a3, a4, a5⟩ := laid_list n.rel s1 n1.rel rw' hp
        exact hq _ _ _ _ a1 a2 a3 a4 a5
      · cases e2
    · cases e2
  · cases e2
end
end Mi
end
set_option Elab.async false
set_option linter.all false
set_option autoImplicit false
set_option maxRecDepth 100000
set_option maxHeartbeats 4000000
/-! Mi: {k: v for x in xs}, the keys tuples. -/
noncomputable section
namespace Mi
open PySem PySem.Spec PyProof.Rows L2
section
variable {X : Cx} {pins : List (Addr × Obj)} {σ : L2.St} {H : Hp} {s : Shared}
/-- a pair goes into a dict whose keys are tuples, or that is empty -/
theorem set_nk {E : Value → Shared → Prop} {ρ μ : List Addr} {kds : List (D × D)} {d p : Addr} {nvs : List (NestedKey × Addr × V)} {n : NestedKey} {v : V} {r : Value} {Q : Unit → Shared → Prop} (hu : X.A.units + 90 < cLine) (I : Inv X pins σ H s)
    (q : RDn X.K ⟨X.nm, ρ⟩ μ H nvs kds) (hD : (nvs = [] ∧ H d = some (.dK [])) ∨ H d = some (hoN X.w d nvs)) (hz : nvs.length < sizeLine) (hk : NkV H n (.ref p)) (hd : n.depth ≤ 8) (rv : RelV v r)
    (h : ∀ s', Inv X pins σ (upd H d (hoN X.w d (putN nvs n p v))) s' → Q () s') : wpAny (model X.prog X.w) X.A (dictSet d (.ref p) r) Q E s := by
  have hp : (nestedKind X.prog X.w).is s.heap n p := ⟨nk_is I.hok hk rfl, hd⟩
  have way : ∀ {xs : List (NestedKey × Addr × Value)}, (d == sysModules) = false → KN nvs xs → s.heap.DictOfH (nestedKind X.prog X.w) d xs → Mut (H d) → wpAny (model X.prog X.w) X.A (dictSet d (.ref p) r) Q E s := fun {xs} hm rel dd mu => by
    refine wpAny_dictSet_heap (hsz := by rw [← Paired.length rel]; omega) (by show X.A.units + 8 < cLine; omega) hp dd fun h' dd' same => h _ ?_
    obtain ⟨o, _, _, ho, _⟩ := id dd'
    exact d_write I mu same ⟨o, ho⟩ (dn_new (by have := putN_len nvs n p v; omega) hm (rel.put rv) dd')
  rcases hD with ⟨rfl, e⟩ | e
  · obtain ⟨_, hm, vs, rel, dd⟩ := dk_of I.hok e
    cases rel
    exact way hm .nil (empty_n dd) (by rw [e]; exact True.intro)
  · obtain ⟨_, hm, xs, rel, dd⟩ := dn_dict (P := X.prog) (w := X.w) I.hok e q
    exact way hm rel dd (by rw [e]; exact True.intro)
end
/-- what one turn writes -/
abbrev Wr := Addr → V → V → Hp → (Hp → Prop) → Prop
def WrOk (X : Cx) (w : Wr) : Prop := ∀ (pins : List (Addr × Obj)) (σ : L2.St) (H : Hp) (s : Shared) (E : Value → Shared → Prop) (d : Addr) (y z : V) (u r : Value) (Nx : Hp → Prop) (Q : Unit → Shared → Prop), Inv X pins σ H s → RelV y u → RelV z r → w d y z H Nx →
  (∀ s' H', Inv X pins σ H' s' → Nx H' → Q () s') → wpAny (model X.prog X.w) X.A (dictSet d u r) Q E s
/-- the reading of a comprehension that makes a dict -/
def tDw (w : Wr) (wi : TI) (g : TG) (tt : TT) (tk tv : TE) (vs : List Nat) : TE := fun σ H Q => wi σ H fun J H1 => ∀ d, H1 d = none → ∃ M : Nat → Nat → Hp → Prop, (∃ m, M 0 m (upd H1 d (.dK []))) ∧ ∀ i m Hc, M i m Hc →
  (J.stop i Hc ∧ Q (.ref d) Hc) ∨ (J.go i Hc ∧ ∃ Nx : Hp → Prop, (∀ Hn, Nx Hn → ∃ k, k < m ∧ M (i + 1) k Hn) ∧ ∀ x Hx, J.yld i Hc x Hx → g x (L2.wipe σ vs) Hx fun σ2 Ha => L2.wipe σ2 vs = L2.wipe σ vs ∧ tt σ2 Ha fun b Hb =>
    if b = true then tk σ2 Hb fun y Hy => tv σ2 Hy fun z Hz => w d y z Hz Nx else Nx Hb)
section
variable {X : Cx}
theorem pe_dcw {w : Wr} {kx vx tg iter : Expr} {ifs : List Expr} {scope : Scope} {own : List (Str × Nat)} {pos : Pos} {wi : TI} {g : TG} {tt : TT} {tk tv : TE} (hc : X.calm = true) (hN : X.N.Nodup) (hi : PI X tg iter wi) (ok : BlkOk X.N X.env.scope scope own)
    (hw : ∀ (s₀ : Shared) (H₀ : Hp) (C : Addr) (cl : List (Str × Addr)) (fp : List Addr), WrOk (X.blk s₀ H₀ scope (compEnvC scope cl C X.env) fp) w)
    (hg : ∀ (s₀ : Shared) (H₀ : Hp) (C : Addr) (cl : List (Str × Addr)) (fp : List Addr), PG (X.blk s₀ H₀ scope (compEnvC scope cl C X.env) fp) tg g)
    (ht : ∀ (s₀ : Shared) (H₀ : Hp) (C : Addr) (cl : List (Str × Addr)) (fp : List Addr), PTs (X.blk s₀ H₀ scope (compEnvC scope cl C X.env) fp) ifs tt)
    (hk : ∀ (s₀ : Shared) (H₀ : Hp) (C : Addr) (cl : List (Str × Addr)) (fp : List Addr), PE (X.blk s₀ H₀ scope (compEnvC scope cl C X.env) fp) kx tk)
    (he : ∀ (s₀ : Shared) (H₀ : Hp) (C : Addr) (cl : List (Str × Addr)) (fp : List Addr), PE (X.blk s₀ H₀ scope (compEnvC scope cl C X.env) fp) vx tv)
    (hs : ∀ x, foldedSetIterable iter X.env x = pure x := by intro _; rfl) : PE X (.DictComp kx vx [⟨tg, iter, ifs, 0⟩] scope pos) (tDw w wi g tt tk tv (own.map (·.2))) := by
  refine ⟨fun pins s σ H Q I h => ?_⟩
  rw [arm_eval_DictComp]
  have free : ∀ y ∈ scope.names, y.2 = .free → ∃ c, X.env.cells.lookup y.1 = some c := fun y hy e => (ok.free y hy e).elim (fun k => I.ok.has _ (.inl k)) fun k => I.ok.has _ (.inr k)
  refine wpAny_comprehension_free (use := none) rfl hs (closure_ok free) ok.kind (fun y hy e => (ok.uniq y hy).trans (by rw [e])) (thn (hi.run pins s σ H _ I h) fun xv sa ha => thn ha fun itv sb hb => ?_)
  obtain ⟨it, fp, tn, J, Hb, e, Ib, T, stb, fb, q⟩ := hb
  subst e
  refine wpAny_newObj_type (newEnv_comp ?_)
  generalize hd : sb.heap.objs.size = d
  obtain ⟨M, ⟨m0, w0⟩, turn⟩ := q d (Ib.hok.fresh (Nat.le_of_eq hd))
  -- the dict that is made
  generalize hsc : ({ sb with heap := sb.heap.push { cls := .type "dict", data := .dict #[] } } : Shared) = sc
  have hc3 : sc.heap = sb.heap.push { cls := .type "dict", data := .dict #[] } := by rw [← hsc]
  have Ic : Inv X pins σ (upd Hb d (.dK [])) sc := by
    subst hsc
    refine Ib.laid (t' := sb.toks) (fun _ _ z => Heap.get?_push_of_some _ z) (Nat.le_of_eq hd) ?_
    subst hd
    exact dk_empty sb.heap Ib.big
  have fc : ∀ b ∈ fp, FpOk X pins (upd Hb d (.dK [])) b ∧ b < sc.heap.objs.size := fun b hb => by
    obtain ⟨o, z, _⟩ := T.obj _ _ stb b hb
    have lt := Heap.lt_size z
    refine ⟨⟨?_, (fb b hb).2⟩, by rw [hc3, Heap.size_push]; exact Nat.lt_succ_of_lt lt⟩
    rw [upd_ne (hd ▸ Nat.ne_of_lt lt)]
    exact (fb b hb).1
  have stc : tn 0 sc.heap := T.keep _ _ _ stb fun b _ o z => by rw [hc3]; exact Heap.get?_push_of_some _ z
  have Id := block_start Ic ok hN fc
  have none_fp : ∀ b ∈ fp, (upd Hb d (.dK [])) b = none := fun b hb => (fc b hb).1.1
  show codeAny _ _ (.compStart (.DictComp kx vx [⟨tg, iter, ifs, 0⟩] scope pos) 0 (.ref it) (.ref d) (compEnvC scope (cellsFrom (sc.heap.objs.size + 1) scope.names (cloFrom X.env.cells scope.names [])) sc.heap.objs.size X.env)) (compPost (model X.prog X.w) X.A X.xe none _ (.ref d) sc.heap.objs.size) { sc with heap := pushCells (sc.heap.push { cls := .type "dict", data := .dict #[] }) scope.names }
  have hgB := hg sc (upd Hb d (.dK [])) sc.heap.objs.size (cellsFrom (sc.heap.objs.size + 1) scope.names (cloFrom X.env.cells scope.names [])) fp
  have htB := ht sc (upd Hb d (.dK [])) sc.heap.objs.size (cellsFrom (sc.heap.objs.size + 1) scope.names (cloFrom X.env.cells scope.names [])) fp
  have hkB := hk sc (upd Hb d (.dK [])) sc.heap.objs.size (cellsFrom (sc.heap.objs.size + 1) scope.names (cloFrom X.env.cells scope.names [])) fp
  have heB := he sc (upd Hb d (.dK [])) sc.heap.objs.size (cellsFrom (sc.heap.objs.size + 1) scope.names (cloFrom X.env.cells scope.names [])) fp
  have hwB := hw sc (upd Hb d (.dK [])) sc.heap.objs.size (cellsFrom (sc.heap.objs.size + 1) scope.names (cloFrom X.env.cells scope.names [])) fp
  generalize hev : compEnvC scope (cellsFrom (sc.heap.objs.size + 1) scope.names (cloFrom X.env.cells scope.names [])) sc.heap.objs.size X.env = ev at Id hgB htB hkB heB hwB ⊢
  have hloc : ev.locals = sc.heap.objs.size := by subst hev; rfl
  generalize upd Hb d (.dK []) = Hc at Ic Id hgB htB hkB heB hwB w0 none_fp fc
  generalize hsd : ({ sc with heap := pushCells (sc.heap.push { cls := .type "dict", data := .dict #[] }) scope.names } : Shared) = sd at Id ⊢
  have std : tn 0 sd.heap := by
    subst hsd
    exact T.keep _ _ _ stc fun b _ o z => pushCells_keeps _ _ _ _ (Heap.get?_push_of_some _ z)
  let Y : Cx := X.blk sc Hc scope ev fp
  have held : ∀ {σ' : L2.St} {H' : Hp} {s' : Shared}, Inv Y [] σ' H' s' → (∀ b ∈ fp, H' b = none) → ∀ b ∈ fp, FpOk Y [] H' b := fun {σ' H' s'} I' hn b hb =>
    ⟨hn b hb, (I'.ok.exf b hb).1, I'.ok.exfs b hb, .inl hb, (fun x c z => (I'.ok.exf b hb).2 x c z), fun p hp => absurd (show p ∈ ([] : List (Addr × Obj)) ++ [] from hp) (by simp)⟩
  have loop : codeAny (model X.prog X.w) X.A (.compLoop (.DictComp kx vx [⟨tg, iter, ifs, 0⟩] scope pos) 0 (.ref it) (.ref d) ev) (compPost (model X.prog X.w) X.A X.xe none (fun u s' => ∃ x H', Inv X pins σ H' s' ∧ RelV x u ∧ Q x H') (.ref d) sc.heap.objs.size) sd := by
    refine compLoop_anyD (fun n s' => ∃ i H', Inv Y [] (L2.wipe σ (own.map (·.2))) H' s' ∧ tn i s'.heap ∧ (∀ b ∈ fp, H' b = none) ∧ M i n H') ?_ m0 ⟨0, Hc, Id, std, none_fp, w0⟩
    rintro n s5 ⟨i, H5, I5, st5, n5, w5⟩
    rcases turn i n H5 w5 with ⟨stop, fin⟩ | ⟨go, Nx, hNx, step⟩
    · refine thnF (T.done Y rfl rfl rfl hc i [] s5 _ H5 (fun _ _ => False) I5 (held I5 n5) st5 stop) fun r s6 ⟨hr, I6⟩ => ?_
      subst hr
      have I7 : Inv X pins σ H5 s6 := Ic.call' (ch := fp) I6.os I6.base I6.hok I6.bare fun b hb => ⟨(fc b hb).1.2.2.2.1, (fc b hb).1.2.1, (fc b hb).1.2.2.2.2.1, (fc b hb).1.2.2.2.2.2⟩
      have nC : H5 sc.heap.objs.size = none := hloc ▸ (show H5 ev.locals = none from I6.free)
      obtain ⟨m, hn, _⟩ := I6.loc
      have hn' : s6.heap.Ns sc.heap.objs.size m := hloc ▸ (show s6.heap.Ns ev.locals m from hn)
      obtain ⟨f0, f1, f2, f3, f4, f5⟩ := Ic.fpOk (Nat.le_refl _) nC
      exact ⟨m, hn', fun h'' sb' => ⟨.ref d, H5, I7.turned (t' := s6.toks) (fun b o hb z => (sb'.2 b hb).trans z) f0 f1 f3 f4 f5, rfl, fin⟩⟩
    · refine thnF (T.item Y rfl rfl rfl hc i [] s5 _ H5 (fun _ _ => False) I5 (held I5 n5) st5 go) fun r s6 ⟨u, hr, h6⟩ => ?_
      subst hr
      refine thnF h6 fun _ s7 ⟨x, H7, I7, r7, y7, st7, n7⟩ => ?_
      have I7' := I7.pinned (held I7 n7) (T.obj _ _ st7)
      refine thnF (hgB.run _ s7 _ H7 x u _ I7' r7 (step x H7 y7)) fun _ s8 ⟨σ8, H8, I8, hw8, q8⟩ => ?_
      refine thnF (htB.run _ s8 σ8 H8 _ I8 q8) fun b s9 ⟨H9, I9, q9⟩ => ?_
      have back : ∀ {s' : Shared} {H' : Hp}, Inv Y ([] ++ pinsAt fp s7.heap) σ8 H' s' → Nx H' → ∃ m, m < n ∧ ∃ i H', Inv Y [] (L2.wipe σ (own.map (·.2))) H' s' ∧ tn i s'.heap ∧ (∀ b ∈ fp, H' b = none) ∧ M i m H' := fun {s' H'} I' nx => by
        obtain ⟨k, hkn, w'⟩ := hNx H' nx
        have pin' : ∀ b ∈ fp, ∀ o, s7.heap.get? b = some o → s'.heap.get? b = some o ∧ H' b = none := fun b hb o z => by
          have y := I'.pin (b, o) (List.mem_append_right _ (List.mem_append_right _ (mem_pinsAt hb z)))
          exact ⟨y.1, y.2.1⟩
        refine ⟨k, hkn, i + 1, H', (I'.unpinned (pins := [])).weak (by rw [← hw8, wipe_length]) (fun j v z => ?_), T.keep _ _ _ st7 fun b hb o z => (pin' b hb o z).1, fun b hb => ?_, w'⟩
        · rw [← hw8] at z
          exact (wipe_some z).1
        · obtain ⟨o, z, _⟩ := T.obj _ _ st7 b hb
          exact (pin' b hb o z).2
      cases b with
      | false =>
        simp only [Bool.false_eq_true, if_false] at q9
        exact back I9 q9
      | true =>
        simp only [if_true] at q9
        refine thnF (hkB.run _ s9 σ8 H9 _ I9 q9) fun y s10 ⟨yk, H10, I10, r10, q10⟩ => ?_
        refine thnF (heB.run _ s10 σ8 H10 _ I10 q10) fun z s11 ⟨yv, H11, I11, r11, wr⟩ => ?_
        exact hwB _ _ _ _ _ _ _ _ _ _ _ _ I11 r10 r11 wr fun s12 H12 I12 nx => back I12 nx
  exact codeAny_compStart_dict loop (T.self X.A 0 _ _ _ std loop)
end
/-! ### the values of it -/
def dcFix (g : G) (t : T) (k v : E) (σ : Env) : List D → List (D × D) → M (List (D × D))
  | [], acc => ret acc
  | d :: ds, acc => fun st => match g d σ with
    | none => none
    | some σ1 => bndN (t σ1) (fun b => if b then bndN (k σ1) fun x => bndN (v σ1) fun y => (if okLt acc.length && kOk true x then dcFix g t k v σ ds (kPut acc x y) else stuck) else dcFix g t k v σ ds acc) st
/-- {k: v for .. in s if t}: a new dict of the store, its keys tuples -/
def eDctC (s : I) (g : G) (t : T) (k v : E) (vs : List Nat) : E := fun σ => bnd (s σ) fun src => match src with
  | .fix ds => bndN (dcFix g t k v (Mi.wipe σ vs) ds []) fun kvs => fun st => some (.ok (.loc st.length) (st ++ [.dct (!kvs.isEmpty) kvs]))
  | .live _ _ => stuck
inductive TurnedD (g : G) (t : T) (k v : E) (σ : Env) (d : D) (st : Store) (acc : List (D × D)) : List (D × D) → Store → Prop where
  | no {σ1 : Env} {st1 : Store} : g d σ = some σ1 → t σ1 st = some (.ok false st1) → TurnedD g t k v σ d st acc acc st1
  | yes {σ1 : Env} {st1 st2 st3 : Store} {x y : D} {n : NestedKey} : g d σ = some σ1 → t σ1 st = some (.ok true st1) → k σ1 st1 = some (.ok x st2) → v σ1 st2 = some (.ok y st3) → acc.length < 16777216 → tupKey x = some n → TurnedD g t k v σ d st acc (kPut acc x y) st3
theorem dcFix_cons {g : G} {t : T} {k v : E} {σ : Env} {d : D} {ds : List D} {acc out : List (D × D)} {st st' : Store} (h : dcFix g t k v σ (d :: ds) acc st = some (.ok out st')) : ∃ acc1 st1, TurnedD g t k v σ d st acc acc1 st1 ∧ dcFix g t k v σ ds acc1 st1 = some (.ok out st') := by
  unfold dcFix at h
  cases hg : g d σ with
  | none => rw [hg] at h; cases h
  | some σ1 =>
    rw [hg] at h
    obtain ⟨b, st1, ht, h⟩ := bndN_inv h
    cases b with
    | true =>
      rw [if_pos rfl] at h
      obtain ⟨x, st2, hx, h⟩ := bndN_inv h
      obtain ⟨y, st3, hy, h⟩ := bndN_inv h
      split at h
      · rename_i q
        rw [Bool.and_eq_true, okLt_eq, decide_eq_true_eq] at q
        obtain ⟨n, hn⟩ := Option.isSome_iff_exists.mp (show (tupKey x).isSome = true from q.2)
        exact ⟨_, _, .yes hg ht hx hy q.1 hn, h⟩
      · cases h
    | false =>
      rw [if_neg Bool.false_ne_true] at h
      exact ⟨_, _, .no hg ht, h⟩
theorem dcFix_noex {g : G} {t : T} {k v : E} {σ : Env} : ∀ {ds : List D} {acc : List (D × D)} {st : Store} {r : R (List (D × D))}, dcFix g t k v σ ds acc st = some r → ∀ x s, r ≠ .ex x s
  | [], _, st, r, h, x, s, z => by cases ret_inv h; cases z
  | d :: ds, acc, st, r, h, x, s, z => by
    unfold dcFix at h
    cases hg : g d σ with
    | none => rw [hg] at h; cases h
    | some σ1 =>
      rw [hg] at h
      obtain ⟨b, st1, ht, h⟩ := bndN_inv h
      cases b with
      | true =>
        rw [if_pos rfl] at h
        obtain ⟨x', st2, hx, h⟩ := bndN_inv h
        obtain ⟨y, st3, hy, h⟩ := bndN_inv h
        split at h
        · exact dcFix_noex h x s z
        · cases h
      | false =>
        rw [if_neg Bool.false_ne_true] at h
        exact dcFix_noex h x s z
theorem kPut_ne (kvs : List (D × D)) (x y : D) : kPut kvs x y ≠ [] := by
  unfold kPut
  split
  · rename_i h
    cases kvs with
    | nil => cases h
    | cons a as => simp
  · simp
/-- the dict in the heap -/
def AtD (w : World) (H : Hp) (a : Addr) (nvs : List (NestedKey × Addr × V)) (kds : List (D × D)) : Prop := (kds = [] ∧ nvs = [] ∧ H a = some (.dK [])) ∨ (kds ≠ [] ∧ H a = some (hoN w a nvs))
section
variable {K : PySem.W.Frag} {g0 : Names} {ρ : List Addr} {g : G} {t : T} {k v : E} {vs dom : List Nat}
structure MidD (K : PySem.W.Frag) (g0 : Names) (ρ : List Addr) (a : Addr) (μ1 : List Addr) (H1 : Hp) (σ : L2.St) (env : Env) (μ2 : List Addr) (st2 : Store) (H2 : Hp) (nvs : List (NestedKey × Addr × V)) (kds : List (D × D)) : Prop where
  new : H1 a = none
  step : Step μ1 H1 μ2 H2
  rel : Rel K ⟨g0, a :: ρ⟩ μ2 st2 H2
  at_ : AtD g0.w H2 a nvs kds
  rds : RDn K ⟨g0, a :: ρ⟩ μ2 H2 nvs kds
  env : REnv K ⟨g0, a :: ρ⟩ μ2 H2 σ env
theorem AtD.ex {w : World} {H : Hp} {a : Addr} {nvs : List (NestedKey × Addr × V)} {kds : List (D × D)} (h : AtD w H a nvs kds) : ∃ o, H a = some o ∧ ∀ xs, o ≠ .tup xs := by
  rcases h with ⟨_, _, h⟩ | ⟨_, h⟩
  · exact ⟨_, h, fun _ z => nomatch z⟩
  · exact ⟨_, h, fun _ z => nomatch z⟩
theorem AtD.step {w : World} {H H' : Hp} {a : Addr} {nvs : List (NestedKey × Addr × V)} {kds : List (D × D)} (h : AtD w H a nvs kds) (e : ∀ o, H a = some o → H' a = some o) : AtD w H' a nvs kds := by
  rcases h with ⟨h1, h2, h⟩ | ⟨h1, h⟩
  · exact .inl ⟨h1, h2, e _ h⟩
  · exact .inr ⟨h1, e _ h⟩
def wrN (X : Cx) : Wr := fun a y z Hz Nx => ∃ (ρ μ : List Addr) (nvs : List (NestedKey × Addr × V)) (kds : List (D × D)) (n : NestedKey) (p : Addr), y = .ref p ∧ RDn X.K ⟨X.nm, ρ⟩ μ Hz nvs kds ∧ ((nvs = [] ∧ Hz a = some (.dK [])) ∨ Hz a = some (hoN X.w a nvs)) ∧ nvs.length < sizeLine ∧ NkV Hz n (.ref p) ∧ n.depth ≤ 8 ∧ Nx (upd Hz a (hoN X.w a (putN nvs n p z)))
theorem wrN_ok {X : Cx} (hu : X.A.units + 90 < cLine) : WrOk X (wrN X) := by
  intro pins σ H s E d y z u r Nx Q I ry rz w h
  obtain ⟨ρ, μ, nvs, kds, n, p, rfl, h1, h2, h3, h4, h5, h6⟩ := w
  cases (show u = Value.ref p from ry)
  exact set_nk hu I h1 h2 h3 h4 h5 rz fun s' I' => h s' _ I' h6
theorem REnv.mutateO {μ : List Addr} {H : Hp} {σ : L2.St} {env : Env} {a : Addr} {o0 o : HO} {mg : Ctx} (e : REnv K (mg.add a) μ H σ env) (h : H a = some o0) (nt : ∀ xs, o0 ≠ .tup xs) : REnv K (mg.add a) μ (upd H a o) σ env :=
  ⟨e.len, fun i d q => let ⟨v, h1, h2⟩ := e.val i d q; ⟨v, h1, h2.mutate h nt⟩⟩
theorem turnD_ok {X : Cx} {a : Addr} {μ1 : List Addr} {H1 : Hp} {σ : L2.St} {env : Env} {μ2 : List Addr} {st2 st3 : Store} {H2 H3 : Hp} {nvs : List (NestedKey × Addr × V)} {kds kds' : List (D × D)} {d : D} {x : V} {it : Item} {Nx : Hp → Prop}
    (m : MidD X.K X.nm ρ a μ1 H1 (L2.wipe σ vs) (Mi.wipe env vs) μ2 st2 H2 nvs kds) (hd : ∀ j ∈ dom, j ∈ vs) (hi : ItR X.K ⟨X.nm, a :: ρ⟩ μ2 H2 it d) (hy : Hands H2 it x H3) (T : TurnedD g t k v (Mi.wipe env vs) d st2 kds kds' st3)
    (fin : ∀ μ4 H4 nvs', MidD X.K X.nm ρ a μ1 H1 (L2.wipe σ vs) (Mi.wipe env vs) μ4 st3 H4 nvs' kds' → Nx H4) :
    tMG X.K X.nm dom g x (L2.wipe σ vs) H3 fun σ2 H4 => L2.wipe σ2 vs = L2.wipe σ vs ∧ tMTx X.K X.nm t σ2 H4 fun b H5 =>
      if b = true then tMx X.K X.nm k σ2 H5 fun y H6 => tMx X.K X.nm v σ2 H6 fun z H7 => wrN X a y z H7 Nx else Nx H5 := by
  obtain ⟨s3, R3, rd⟩ := hands_rd m.rel hi hy
  have hm : a ∉ μ2 := (m.rel.res a List.mem_cons_self).1
  have a3 : AtD X.w H3 a nvs kds := AtD.step m.at_ fun o e => s3.keep _ _ e hm
  have e3 := m.env.step m.rel s3
  have r3 := RDn.step m.rel s3 m.rds
  cases T with
  | @no σ1 _ hg ht =>
    refine ⟨a :: ρ, μ2, st2, _, d, σ1, R3, e3, rd, hg, fun σ2 e4 hl hj => ⟨wipe_same hd hl hj, ?_⟩⟩
    refine ⟨⟨μ2, a :: ρ, H3⟩, μ2, st2, σ1, ⟨Step.refl _ _, R3, e4⟩, _, ht, fun μ5 H5 s5 R5 => ?_⟩
    dsimp only
    rw [if_neg Bool.false_ne_true]
    exact fin μ5 H5 nvs ⟨m.new, (m.step.trans m.rel s3).trans R3 s5, R5, AtD.step a3 fun o e => s5.keep _ _ e hm, RDn.step R3 s5 r3, e3.step R3 s5⟩
  | @yes σ1 st4 st5 _ kx vy n hg ht hk hv hlt hn =>
    refine ⟨a :: ρ, μ2, st2, _, d, σ1, R3, e3, rd, hg, fun σ2 e4 hl hj => ⟨wipe_same hd hl hj, ?_⟩⟩
    refine ⟨⟨μ2, a :: ρ, H3⟩, μ2, st2, σ1, ⟨Step.refl _ _, R3, e4⟩, _, ht, fun μ5 H5 s5 R5 => ?_⟩
    dsimp only
    rw [if_pos rfl]
    refine ⟨⟨μ5, a :: ρ, H5⟩, μ5, st4, σ1, ⟨Step.refl _ _, R5, e4.step R3 s5⟩, _, hk, fun μ6 H6 y s6 R6 ry => ?_⟩
    refine ⟨⟨μ6, a :: ρ, H6⟩, μ6, st5, σ1, ⟨Step.refl _ _, R6, (e4.step R3 s5).step R5 s6⟩, _, hv, fun μ7 H7 z s7 R7 rz => ?_⟩
    have s57 : Step μ2 H3 μ7 H7 := (s5.trans R5 s6).trans R6 s7
    have a7 : AtD X.w H7 a nvs kds := AtD.step a3 fun o e => s57.keep _ _ e hm
    have r7 := RDn.step R3 s57 r3
    have rk := ry.step R6 s7
    have hx : ∃ p, y = .ref p := by
      cases kx <;> simp only [tupKey] at hn <;> try (cases hn; done)
      cases ry with
      | tup _ _ => exact ⟨_, rfl⟩
    obtain ⟨p, rfl⟩ := hx
    have hlen : nvs.length = kds.length := r7.length
    obtain ⟨o7, h7, nt7⟩ := a7.ex
    refine ⟨a :: ρ, μ7, nvs, kds, n, p, rfl, r7, ?_, by rw [sizeLine_eq]; omega, nk_of rk (tup_inv hn).1, (tup_inv hn).2, ?_⟩
    · rcases a7 with ⟨_, h2, h3⟩ | ⟨_, h3⟩
      · exact .inl ⟨h2, h3⟩
      · exact .inr h3
    · refine fin μ7 _ (putN nvs n p z) ⟨m.new, ((m.step.trans m.rel s3).trans R3 s57).mutate m.new, Rel.mutateO (mg := ⟨X.nm, ρ⟩) R7 h7 nt7 (fun _ z => nomatch z), .inr ⟨kPut_ne _ _ _, upd_same⟩, ?_, REnv.mutateO (mg := ⟨X.nm, ρ⟩) (e3.step R3 s57) h7 nt7⟩
      exact RDn.mutate (mg := ⟨X.nm, ρ⟩) h7 nt7 (kput_n hn rk r7 rz)
end
section
variable {X : Cx} {B : Base} {W : Wish}
theorem dc_read {s : I} {g : G} {t : T} {k v : E} {vs dom : List Nat} (hd : ∀ j ∈ dom, j ∈ vs) : ∀ σ H Q, tM X.K ⟨X.nm, B.ρ⟩ B W (eDctC s g t k v vs) σ H Q → tDw (wrN X) (tMI X.K ⟨X.nm, B.ρ⟩ B W s) (tMG X.K X.nm dom g) (tMTx X.K X.nm t) (tMx X.K X.nm k) (tMx X.K X.nm v) vs σ H Q := by
  rintro σ H Q ⟨μ, st, env, n, r, h, hq⟩
  rcases bnd_inv h with ⟨src, st1, e1, h1⟩ | ⟨x, st1, e1, rfl⟩
  case inr => exact ⟨μ, st, env, n, _, e1, hq⟩
  refine ⟨μ, st, env, n, _, e1, fun μ1 H1 J s1 R1 SR live a ha => ?_⟩
  have n1 := n.next s1 R1
  have ha0 : H a = none := s1.fresh ha fun z => by
    obtain ⟨⟨ν, rfl, _⟩, _⟩ := s1
    exact R1.new ha (List.mem_append_left _ z)
  have R1' : Rel X.K ⟨X.nm, a :: B.ρ⟩ μ1 st1 (upd H1 a (.dK [])) := R1.holdO ha (fun _ z => nomatch z)
  have env1 : REnv X.K ⟨X.nm, a :: B.ρ⟩ μ1 (upd H1 a (.dK [])) (L2.wipe σ vs) (Mi.wipe env vs) := by
    have q := n1.env.wipe vs
    exact ⟨q.len, fun i d h => let ⟨v, h1, h2⟩ := q.val i d h; ⟨v, h1, RD.step R1 (Step.laid ha) (h2.keep R1 ha (.inr trivial))⟩⟩
  cases src with
  | live l n => cases h1
  | fix ds =>
    obtain ⟨kvs, st', e2, h2⟩ := bndN_inv h1
    cases h2
    obtain ⟨its, i1, i2⟩ := SR
    have i1' : ItsR X.K ⟨X.nm, a :: B.ρ⟩ μ1 H1 its ds := i1.hold R1 ha
    have il := i1.length
    refine ⟨fun i m H2 => ∃ μ2 st2 nvs kds, m = ds.length - i ∧ i ≤ ds.length ∧ MidD X.K X.nm B.ρ a μ1 H1 (L2.wipe σ vs) (Mi.wipe env vs) μ2 st2 H2 nvs kds ∧ dcFix g t k v (Mi.wipe env vs) (ds.drop i) kds st2 = some (.ok kvs st'),
      ⟨ds.length, μ1, st1, [], [], by omega, Nat.zero_le _, ⟨ha, Step.laid ha, R1', .inl ⟨rfl, rfl, upd_same⟩, .nil, env1⟩, e2⟩, ?_⟩
    rintro i m H2 ⟨μ2, st2, nvs, kds, rfl, hi, M, hc⟩
    have kp : Kp μ1 B.ρ H1 H2 := M.step.kp
    by_cases hlt : i < ds.length
    · have hdi : ds[i]? = some ds[i] := List.getElem?_eq_getElem hlt
      obtain ⟨it, hit, ir⟩ := i1'.get hdi
      obtain ⟨go, yl⟩ := (i2 H2 kp i).1 it hit
      rw [List.drop_eq_getElem_cons hlt] at hc
      obtain ⟨kds', st3, T, hc2⟩ := dcFix_cons hc
      refine .inr ⟨go, fun H4 => ∃ μ4 nvs', MidD X.K X.nm B.ρ a μ1 H1 (L2.wipe σ vs) (Mi.wipe env vs) μ4 st3 H4 nvs' kds', fun H4 ⟨μ4, nvs', M4⟩ => ⟨ds.length - (i + 1), by omega, μ4, st3, nvs', kds', rfl, hlt, M4, hc2⟩, fun x H3 y => ?_⟩
      refine turnD_ok (it := it) M hd ?_ (yl x H3 y) T fun μ4 H4 nvs' M4 => ⟨μ4, nvs', M4⟩
      obtain ⟨it', h1, h2⟩ := (ItsR.step' R1 M.step i1').get hdi
      rw [hit] at h1
      cases h1
      exact h2
    · have e : i = ds.length := by omega
      subst e
      rw [List.drop_length] at hc
      cases ret_inv hc
      refine .inl ⟨(i2 H2 kp _).2 il, ?_⟩
      have hob : ObjR X.K ⟨X.nm, B.ρ⟩ (μ2 ++ [a]) H2 a (.dct (!kvs.isEmpty) kvs) := by
        rcases M.at_ with ⟨h1, h2, h3⟩ | ⟨h1, h3⟩
        · subst h1 h2
          exact ⟨[], h3, .nil⟩
        · have : (!kvs.isEmpty) = true := by cases kvs with | nil => exact absurd rfl h1 | cons _ _ => rfl
          rw [this]
          exact ⟨nvs, h3, RDn.take_in (mg := ⟨X.nm, B.ρ⟩) M.rds⟩
      have R4 := Rel.take_inO (mg := ⟨X.nm, B.ρ⟩) M.rel hob
      have st4 : Step μ H (μ2 ++ [a]) H2 := by
        have s2 := s1.trans R1 M.step
        obtain ⟨⟨ν, rfl, hν⟩, kk⟩ := s2
        refine ⟨⟨ν ++ [a], List.append_assoc .., fun q hq => ?_⟩, kk⟩
        rcases List.mem_append.mp hq with z | z
        · exact hν q z
        · simp at z; subst z; exact ha0
      exact hq _ _ _ st4 R4 (.loc (by rw [← M.rel.len]; simp))
theorem ce_dctC {kx vx tg iter : Expr} {ifs : List Expr} {scope : Scope} {own : List (Str × Nat)} {pos : Pos} {s : I} {g : G} {t : T} {k v : E} {dom : List Nat} (hu : X.A.units + 90 < cLine) (hc : X.calm = true) (hN : X.N.Nodup) (hi : CI X B W tg iter s) (ok : BlkOk X.N X.env.scope scope own)
    (hg : ∀ (s : Shared) (H : Hp) (C : Addr) (cl : List (Str × Addr)) (fp : List Addr), CG (X.blk s H scope (compEnvC scope cl C X.env) fp) tg dom g) (ht : ∀ (s : Shared) (H : Hp) (C : Addr) (cl : List (Str × Addr)) (fp : List Addr), CTs (X.blk s H scope (compEnvC scope cl C X.env) fp) ifs t)
    (hk : ∀ (s : Shared) (H : Hp) (C : Addr) (cl : List (Str × Addr)) (fp : List Addr) (B' : Base), CE (X.blk s H scope (compEnvC scope cl C X.env) fp) B' WF kx k) (he : ∀ (s : Shared) (H : Hp) (C : Addr) (cl : List (Str × Addr)) (fp : List Addr) (B' : Base), CE (X.blk s H scope (compEnvC scope cl C X.env) fp) B' WF vx v)
    (hd : (dom.all fun j => (own.map (·.2)).contains j) = true) (hs : ∀ x, foldedSetIterable iter X.env x = pure x := by intro _; rfl) :
    CE X B W (.DictComp kx vx [⟨tg, iter, ifs, 0⟩] scope pos) (eDctC s g t k v (own.map (·.2))) :=
  PE.imp (pe_dcw hc hN hi ok (fun s₀ H₀ C cl fp => wrN_ok (X := X.blk s₀ H₀ scope (compEnvC scope cl C X.env) fp) hu) hg ht (fun s H C cl fp => cx_of (hk s H C cl fp)) (fun s H C cl fp => cx_of (he s H C cl fp)) hs) (dc_read fun j hj => by
    have := List.all_eq_true.mp hd j hj
    simpa using this)
end
end Mi
end
set_option Elab.async false
set_option linter.all false
set_option autoImplicit false
set_option maxRecDepth 100000
set_option maxHeartbeats 2000000
/-! Mi: range(i, j, k), k above 0. -/
noncomputable section
namespace Mi
open PySem PySem.Spec PyProof.Rows L2
def rg3B (i j k : Int) : Bool := shut (decide (k ≠ 0) && (decide (k.natAbs < 1073741824) && Builtin.Range.small i j k))
theorem rg3B_eq (i j k : Int) : rg3B i j k = (decide (k ≠ 0) && (decide (k.natAbs < 1073741824) && Builtin.Range.small i j k)) := shut_eq _
def rangeD3 (i j k : Int) : List D := (List.range (Builtin.Range.rangeSize i j k).toNat).map fun (m : Nat) => D.int (i + (m : Int) * k)
def iRange3 (a b c : E) : I := fun σ => bnd (a σ) fun x => bnd (b σ) fun y => bnd (c σ) fun z => need (match x, y, z with | .int i, .int j, .int k => if rg3B i j k then some (.fix (rangeD3 i j k)) else none | _, _, _ => none)
section
variable {K : PySem.W.Frag} {mg : Ctx} {μ : List Addr} {H : Hp}
theorem its_rangeC (i k : Int) : ∀ ns : List Nat, ItsR K mg μ H ((ns.map fun (m : Nat) => V.int (i + (m : Int) * k)).map .one) (ns.map fun (m : Nat) => D.int (i + (m : Int) * k))
  | [] => .nil
  | n :: ns => .cons (.int _) (its_rangeC i k ns)
theorem src_rangeC (i k : Int) (n : Nat) : SrcR K mg μ H (Itc i k n) (.fix ((List.range n).map fun (m : Nat) => D.int (i + (m : Int) * k))) := by
  refine ⟨((List.range n).map fun (m : Nat) => V.int (i + (m : Int) * k)).map .one, its_rangeC i k _, fun H2 kp q => ⟨fun t ht => ?_, fun e => ?_⟩⟩
  · rw [List.getElem?_map, List.getElem?_map] at ht
    by_cases hq : q < n
    · rw [List.getElem?_range hq] at ht
      cases ht
      exact ⟨hq, fun x H3 y => ⟨y.2, y.1⟩⟩
    · rw [List.getElem?_eq_none (by simpa using Nat.le_of_not_lt hq)] at ht
      cases ht
  · simp at e
    exact Nat.le_of_eq e
end
section
variable {X : Cx} {B : Base} {W : Wish} {tg a b c : Expr} {ma mb mc : E} {p pos : Pos}
theorem ci_range3 (hg : Gl X "range") (hm : X.mg "range" = none) (ha : CE X B W a ma) (hb : CE X B W b mb) (hc : CE X B W c mc)
    (hs : starEach [a, b, c] X.env = (false, eval a X.env) :: starEach [b, c] X.env := by rfl) (hs2 : starEach [b, c] X.env = (false, eval b X.env) :: starEach [c] X.env := by rfl) (hs3 : starEach [c] X.env = (false, eval c X.env) :: starEach [] X.env := by rfl)
    (hpl : (backTo pos (starEach [b, c] X.env)).any (·.1) = false := by rfl) : CI X B W tg (.Call (.Name "range" p) [a, b, c] [] pos) (iRange3 ma mb mc) := by
  refine PI.imp (pi_range3 hg hm (pa_cons ha (pa_cons hb (pa_cons hc pa_nil hs3) hs2) hs) hs hpl) ?_
  rintro σ H Rw ⟨μ, st, env, n, r, h, hq⟩
  have hx : ∀ x st1, r = .ex x st1 → W x env st1 := fun x st1 e => by subst e; exact hq
  refine first n h hx fun d st1 μ1 H1 v h1 s1 n1 r1 => ?_
  refine first n1 h1 hx fun d2 st2 μ2 H2 u h2 s2 n2 r2 => ?_
  refine first n2 h2 hx fun d3 st3 μ3 H3 w h3 s3 n3 r3 => ?_
  obtain ⟨src, e, rfl⟩ := need_inv h3
  cases d <;> cases d2 <;> cases d3 <;> simp only at e <;> try (cases e; done)
  split at e
  · rename_i i j k hz
    cases e
    cases r1; cases r2; cases r3
    simp only [rg3B_eq, Bool.and_eq_true, decide_eq_true_eq] at hz
    exact ⟨i, j, k, _, rfl, ⟨hz.1, hz.2.1, hz.2.2, rangeSize_toNat i j k⟩, hq _ _ _ ((s1.trans n1.rel s2).trans n2.rel s3) n3.rel (src_rangeC i k _) (fun l n z => nomatch z)⟩
  · cases e
end
end Mi
end
set_option Elab.async false
set_option linter.all false
set_option autoImplicit false
set_option maxRecDepth 100000
set_option maxHeartbeats 2000000
/-! Mi: [.. for i, x in enumerate(xs)] over a list of the store. -/
noncomputable section
namespace Mi
open PySem PySem.Spec PyProof.Rows L2
def compLiveE (g : G) (t : T) (e : E) (σ : Env) (l : Nat) : Nat → Nat → M (List D)
  | 0, i => fun st => match st[l]? with
    | some (.lst ds) => if ds.length ≤ i then some (.ok [] st) else none
    | _ => none
  | n + 1, i => fun st => match st[l]? with
    | some (.lst ds) => (match ds[i]? with
      | none => none
      | some d => (match g (.tup [.int (i : Nat), d]) σ with
        | none => none
        | some σ1 => bndN (t σ1) (fun k => if k then bndN (e σ1) fun x => bndN (compLiveE g t e σ l n (i + 1)) fun xs => ret (x :: xs) else compLiveE g t e σ l n (i + 1)) st))
    | _ => none
def lCompE (a : E) (g : G) (t : T) (e : E) (vs : List Nat) : EL := fun σ => bnd (a σ) fun x => fun st => match x with
  | .loc l => (match st[l]? with
    | some (.lst ds) => bnd (compLiveE g t e (wipe σ vs) l ds.length 0) (fun xs => if okLen xs.length then ret xs else stuck) st
    | _ => none)
  | _ => none
theorem compLiveE_cons {g : G} {t : T} {e : E} {σ : Env} {l n i : Nat} {st : Store} {r : R (List D)} (h : compLiveE g t e σ l (n + 1) i st = some r) (hr : ∀ x s, r ≠ .ex x s) :
    ∃ ds d o st1 xs st', st[l]? = some (.lst ds) ∧ ds[i]? = some d ∧ Turned g t e σ (.tup [.int (i : Nat), d]) st o st1 ∧ compLiveE g t e σ l n (i + 1) st1 = some (.ok xs st') ∧ r = .ok (o.toList ++ xs) st' := by
  unfold compLiveE at h
  split at h
  case h_2 => cases h
  rename_i ds hl
  split at h
  case h_1 => cases h
  rename_i d hd
  split at h
  case h_1 => cases h
  rename_i σ1 hg
  obtain ⟨k, st1, ht, h⟩ := bndN_inv h
  cases k with
  | true =>
    rw [if_pos rfl] at h
    obtain ⟨x, st2, he, h⟩ := bndN_inv h
    obtain ⟨xs, st3, hc, h⟩ := bndN_inv h
    cases ret_inv h
    exact ⟨ds, d, some x, st2, xs, st3, hl, hd, .yes hg ht he, hc, rfl⟩
  | false =>
    rw [if_neg Bool.false_ne_true] at h
    cases r with
    | ok xs st' => exact ⟨ds, d, none, st1, xs, st', hl, hd, .no hg ht, h, rfl⟩
    | ex x s => exact absurd rfl (hr x s)
theorem compLiveE_noex {g : G} {t : T} {e : E} {σ : Env} {l : Nat} : ∀ {n i : Nat} {st : Store} {r : R (List D)}, compLiveE g t e σ l n i st = some r → ∀ x s, r ≠ .ex x s
  | 0, i, st, r, h, x, s, z => by
    unfold compLiveE at h
    split at h
    · split at h
      · cases h; cases z
      · cases h
    · cases h
  | n + 1, i, st, r, h, x, s, z => by
    unfold compLiveE at h
    split at h
    case h_2 => cases h
    split at h
    case h_1 => cases h
    split at h
    case h_1 => cases h
    obtain ⟨k, st1, ht, h⟩ := bndN_inv h
    cases k with
    | true =>
      rw [if_pos rfl] at h
      obtain ⟨y, st2, he, h⟩ := bndN_inv h
      obtain ⟨xs, st3, hc, h⟩ := bndN_inv h
      cases ret_inv h
      cases z
    | false =>
      rw [if_neg Bool.false_ne_true] at h
      exact compLiveE_noex h x s z
section
variable {X : Cx} {B : Base} {W : Wish} {pos p : Pos}
/-- what enumerate of such a list reads -/
def tEL (K : PySem.W.Frag) (te : TE) : TI := fun σ H R => te σ H fun v H1 => ∃ (a : Addr) (xs : List V), v = .ref a ∧ SqL K H1 a xs ∧ R (Ite K a) H1
theorem pi_enumL {a : Expr} {ma : E} {elts : List Expr} {kk : Nat} {tpos : Pos} (hg : Gl X "enumerate") (hm : X.mg "enumerate" = none) (ha : CE X B W a ma) (hs : starEach [a] X.env = [(false, eval a X.env)] := by rfl) :
    PI X (.Tuple elts kk tpos) (.Call (.Name "enumerate" p) [a] [] pos) (tEL X.K (tM X.K ⟨X.nm, B.ρ⟩ B W ma)) := by
  refine PI.imp (pi_enumA hg hm (pa_cons ha pa_nil hs) hs) ?_
  rintro σ H R ⟨μ, st, env, n, r, h, hq⟩
  refine ⟨μ, st, env, n, r, h, ?_⟩
  cases r with
  | ok d st1 =>
    intro μ' H' v s1 R1 rd
    obtain ⟨q, xs, rfl, h1, h2⟩ := hq μ' H' v s1 R1 rd
    exact ⟨q, xs, rfl, .inl ⟨h1, h2⟩⟩
  | ex x st1 => exact hq
theorem compE_read {a : E} {g : G} {t : T} {e : E} {vs dom : List Nat} (hd : ∀ j ∈ dom, j ∈ vs) : ∀ σ H Q, tML X.K ⟨X.nm, B.ρ⟩ B W (lCompE a g t e vs) σ H Q → tLc (tEL X.K (tM X.K ⟨X.nm, B.ρ⟩ B W a)) (tMG X.K X.nm dom g) (tMTx X.K X.nm t) (tMx X.K X.nm e) vs σ H Q := by
  rintro σ H Q ⟨μ, st, env, n, r, h, hq⟩
  rcases bnd_inv h with ⟨x, st1, e1, h1⟩ | ⟨x, st1, e1, rfl⟩
  case inr => exact ⟨μ, st, env, n, _, e1, hq⟩
  refine ⟨μ, st, env, n, _, e1, fun μ1 H1 v s1 R1 rx => ?_⟩
  have n1 := n.next s1 R1
  cases x <;> try (cases h1; done)
  rename_i l
  dsimp only at h1
  split at h1
  case h_2 => cases h1
  rename_i ds hl
  cases rx with
  | @loc q _ hq1 =>
  obtain ⟨ws, w1, w2⟩ := R1.obj l q _ hq1 hl
  refine ⟨q, ws, rfl, SqL.of w1, fun D₀ hD => ?_⟩
  have hD0 : H D₀ = none := s1.fresh hD fun z => by
    obtain ⟨⟨ν, rfl, _⟩, _⟩ := s1
    exact R1.new hD (List.mem_append_left _ z)
  have R1' : Rel X.K ⟨X.nm, D₀ :: B.ρ⟩ μ1 st1 (upd H1 D₀ (.lst [])) := R1.hold hD
  have env1 : REnv X.K ⟨X.nm, D₀ :: B.ρ⟩ μ1 (upd H1 D₀ (.lst [])) (L2.wipe σ vs) (Mi.wipe env vs) := by
    have q := n1.env.wipe vs
    exact ⟨q.len, fun i d h => let ⟨v, h1, h2⟩ := q.val i d h; ⟨v, h1, RD.step R1 (Step.laid hD) (h2.keep R1 hD (.inr trivial))⟩⟩
  have M0 : Mid X.K X.nm B.ρ D₀ μ1 H1 (L2.wipe σ vs) (Mi.wipe env vs) μ1 st1 (upd H1 D₀ (.lst [])) [] [] := ⟨hD, Step.laid hD, R1', upd_same, .nil, env1⟩
  rcases bnd_inv h1 with ⟨xs, st', e2, h2⟩ | ⟨x, st', e2, rfl⟩
  case inr => exact absurd rfl (compLiveE_noex e2 x st')
  split at h2
  case isFalse => cases h2
  rename_i hz
  cases ret_inv h2
  have hz' : xs.length ≤ 16777216 := of_decide_eq_true ((okLen_eq _).symm.trans hz)
  have fin : ∀ {μ2 H2 acc}, Mid X.K X.nm B.ρ D₀ μ1 H1 (L2.wipe σ vs) (Mi.wipe env vs) μ2 st' H2 acc xs → Q (.ref D₀) H2 := fun {μ2 H2 acc} M =>
    hq μ2 H2 D₀ acc (s1.trans R1 M.step) M.rel hD0 M.at_ M.rds
  refine ⟨fun i m H2 => ∃ μ2 st2 acc accD rest, Mid X.K X.nm B.ρ D₀ μ1 H1 (L2.wipe σ vs) (Mi.wipe env vs) μ2 st2 H2 acc accD ∧ compLiveE g t e (Mi.wipe env vs) l m i st2 = some (.ok rest st') ∧ accD ++ rest = xs,
    ⟨ds.length, μ1, st1, [], [], xs, M0, e2, rfl⟩, ?_⟩
  rintro i m H2 ⟨μ2, st2, acc, accD, rest, M, hc, hx⟩
  have hq2 : μ2[l]? = some q := M.step.idx hq1
  cases m with
  | zero =>
    unfold compLiveE at hc
    split at hc
    case h_2 => cases hc
    rename_i ds2 hl2
    split at hc
    case isFalse => cases hc
    rename_i hle
    cases hc
    rw [List.append_nil] at hx
    subst hx
    obtain ⟨us, u1, u2⟩ := M.rel.obj l q _ hq2 hl2
    exact .inl ⟨⟨us, SqL.of u1, by rw [u2.length]; exact hle⟩, fin M⟩
  | succ m =>
    obtain ⟨ds2, d, o, st3, ys, st4, hl2, hdi, T, hc2, hr⟩ := compLiveE_cons hc (fun x s z => nomatch z)
    cases hr
    obtain ⟨us, u1, u2⟩ := M.rel.obj l q _ hq2 hl2
    obtain ⟨v, hv, rv⟩ := u2.get hdi
    refine .inr ⟨⟨us, v, SqL.of u1, hv⟩, fun H4 => ∃ μ4 acc', Mid X.K X.nm B.ρ D₀ μ1 H1 (L2.wipe σ vs) (Mi.wipe env vs) μ4 st3 H4 acc' (accD ++ o.toList), fun H4 ⟨μ4, acc', M4⟩ => ⟨m, Nat.lt_succ_self _, μ4, st3, acc', _, ys, M4, hc2, by rw [List.append_assoc]; exact hx⟩, fun x H3 y => ?_⟩
    obtain ⟨T', x', y1, y2, y3, y4⟩ := y
    have hxv : x' = v := by
      have := y4 us (SqL.of u1)
      rw [hv] at this
      exact (Option.some.inj this).symm
    subst hxv
    refine turn_ok (it := .tup [.int (i : Nat), x']) M hd ⟨_, rfl, .cons (.int _) (.cons rv .nil)⟩ ⟨T', y1, y2, y3⟩ T ?_ fun μ4 H4 acc' M4 => ⟨μ4, acc', M4⟩
    have := congrArg List.length hx
    simp at this
    omega
/-- as a value -/
theorem cl_compE {elt a : Expr} {elts : List Expr} {kk : Nat} {tpos ipos : Pos} {ifs : List Expr} {scope : Scope} {own : List (Str × Nat)} {ma : E} {g : G} {t : T} {e : E} {dom : List Nat} (hgl : Gl X "enumerate") (hm : X.mg "enumerate" = none) (hc : X.calm = true) (hN : X.N.Nodup) (ha : CE X B W a ma) (ok : BlkOk X.N X.env.scope scope own)
    (hg : ∀ (s : Shared) (H : Hp) (C : Addr) (cl : List (Str × Addr)) (fp : List Addr), CG (X.blk s H scope (compEnvC scope cl C X.env) fp) (.Tuple elts kk tpos) dom g) (ht : ∀ (s : Shared) (H : Hp) (C : Addr) (cl : List (Str × Addr)) (fp : List Addr), CTs (X.blk s H scope (compEnvC scope cl C X.env) fp) ifs t)
    (he : ∀ (s : Shared) (H : Hp) (C : Addr) (cl : List (Str × Addr)) (fp : List Addr) (B' : Base), CE (X.blk s H scope (compEnvC scope cl C X.env) fp) B' WF elt e) (hd : (dom.all fun j => (own.map (·.2)).contains j) = true) (hs : ∀ x, foldedSetIterable (.Call (.Name "enumerate" p) [a] [] ipos) X.env x = pure x := by intro _; rfl) (hs1 : starEach [a] X.env = [(false, eval a X.env)] := by rfl) :
    CL X B W (.ListComp elt [⟨.Tuple elts kk tpos, .Call (.Name "enumerate" p) [a] [] ipos, ifs, 0⟩] scope pos) (lCompE ma g t e (own.map (·.2))) :=
  PE.imp (pe_lc hc hN (pi_enumL hgl hm ha hs1) ok hg ht (fun s H C cl fp => cx_of (he s H C cl fp)) hs) (compE_read fun j hj => by
    have := List.all_eq_true.mp hd j hj
    simpa using this)
/-- x = [..] on one line, a new list of the store -/
theorem cs_setLcE {i : Nat} {y : Str} {py : Pos} {elt a : Expr} {elts : List Expr} {kk : Nat} {tpos ipos : Pos} {ifs : List Expr} {scope : Scope} {own : List (Str × Nat)} {spos : Pos} {ma : E} {g : G} {t : T} {e : E} {dom : List Nat} (hgl : Gl X "enumerate") (hm : X.mg "enumerate" = none) (hc : X.calm = true) (hN : X.N.Nodup) (hy : X.N[i]? = some y) (hyl : X.env.scope.names.lookup y = some .local)
    (hsw : swapsWith (.ListComp elt [⟨.Tuple elts kk tpos, .Call (.Name "enumerate" p) [a] [] ipos, ifs, 0⟩] scope pos) (some (.Name y py)) spos.line X.env = pure true) (ha : CE X B W a ma) (ok : BlkOk X.N X.env.scope scope own)
    (hg : ∀ (s : Shared) (H : Hp) (C : Addr) (cl : List (Str × Addr)) (fp : List Addr), CG (X.blk s H scope (compEnvC scope cl C X.env) fp) (.Tuple elts kk tpos) dom g) (ht : ∀ (s : Shared) (H : Hp) (C : Addr) (cl : List (Str × Addr)) (fp : List Addr), CTs (X.blk s H scope (compEnvC scope cl C X.env) fp) ifs t)
    (he : ∀ (s : Shared) (H : Hp) (C : Addr) (cl : List (Str × Addr)) (fp : List Addr) (B' : Base), CE (X.blk s H scope (compEnvC scope cl C X.env) fp) B' WF elt e) (hd : (dom.all fun j => (own.map (·.2)).contains j) = true) (hs : ∀ x, foldedSetIterable (.Call (.Name "enumerate" p) [a] [] ipos) X.env x = pure x := by intro _; rfl) (hs1 : starEach [a] X.env = [(false, eval a X.env)] := by rfl) :
    CS X B W (.Assign [.Name y py] (.ListComp elt [⟨.Tuple elts kk tpos, .Call (.Name "enumerate" p) [a] [] ipos, ifs, 0⟩] scope pos) spos) (sSet i (eNew (lCompE ma g t e (own.map (·.2))))) := by
  refine PS.imp (ps_setLc (te := tMx X.K X.nm e) (tt := tMTx X.K X.nm t) (g := tMG X.K X.nm dom g) hc hN hy hyl hsw (pi_enumL hgl hm ha hs1) ok hg ht (fun s H C cl fp => cx_of (he s H C cl fp)) hs) ?_
  rintro D σ H ⟨μ, st, env, n, r, h, hq⟩
  refine tLc_asg (compE_read (B := B) (W := W) (fun j hj => by
    have := List.all_eq_true.mp hd j hj
    simpa using this) σ H _ ?_)
  rcases sBnd_inv h with ⟨d, st1, e1, h1⟩ | ⟨x, st1, e1, rfl⟩
  · rcases bnd_inv e1 with ⟨ds, st2, e2, h2⟩ | ⟨x, st2, e2, z⟩
    · refine ⟨μ, st, env, n, _, e2, fun μ1 H1 p vs s1 R1 f1 f2 r1 => ?_⟩
      cases h2
      split at h1
      · cases h1
        have s2 : Step μ H (μ1 ++ [p]) H1 := by
          obtain ⟨⟨ν, rfl, hν⟩, k⟩ := s1
          refine ⟨⟨ν ++ [p], List.append_assoc .., fun q hq => ?_⟩, k⟩
          rcases List.mem_append.mp hq with z | z
          · exact hν q z
          · simp at z; subst z; exact f1
        have R2 := R1.take_in f2 r1
        exact hq _ _ _ s2 R2 ((n.next s2 R2).env.set (.loc (by rw [← R1.len]; simp)))
      · cases h1
    · cases z
  · rcases bnd_inv e1 with ⟨ds, st2, e2, h2⟩ | ⟨x', st2, e2, z⟩
    · cases h2
    · cases z
      exact ⟨μ, st, env, n, _, e2, hq⟩
end
end Mi
end
set_option Elab.async false
set_option linter.all false
set_option autoImplicit false
set_option maxRecDepth 100000
/-! what the combinators come to, in plain words -/
namespace Mi
open PySem

abbrev dN (n : Nat) : D := .int (n : Int)
def nsD (xs : List Nat) : List D := xs.map dN
abbrev nums (xs : List Nat) : D := .tup (nsD xs)
def pN (n : Nat) : PyData := .int (n : Int)

theorem nsD_len (xs : List Nat) : (nsD xs).length = xs.length := List.length_map ..
theorem pys_nsD (ρ : Nat → Option PyData) : ∀ xs : List Nat, pys ρ (nsD xs) = some (xs.map pN)
  | [] => rfl
  | x :: xs => by
    show (match py ρ (.int (x : Int)) with | some y => (match pys ρ (nsD xs) with | some ys => some (y :: ys) | none => none) | none => none) = _
    rw [pys_nsD ρ xs]; rfl
theorem toPy_int (st : Store) (i : Int) : toPy st (.int i) = some (.int i) := rfl
theorem toPy_bl (st : Store) (b : Bool) : toPy st (.bl b) = some (.bool b) := rfl
theorem toPy_non (st : Store) : toPy st .non = some .none := rfl
theorem toPy_nums (st : Store) (xs : List Nat) : toPy st (nums xs) = some (.tuple (xs.map pN)) := by
  unfold toPy; rw [py]; rw [pys_nsD]
theorem toPys_nsD (st : Store) (xs : List Nat) : toPys st (nsD xs) = some (xs.map pN) := pys_nsD _ xs
theorem depthAll_pN : ∀ xs : List Nat, PyData.depthAll (xs.map pN) = 0
  | [] => rfl
  | x :: xs => by
    show max 0 (PyData.depthAll (xs.map pN)) = 0
    rw [depthAll_pN xs]; rfl
theorem eqvAll_pN : ∀ xs ys : List Nat, PyData.eqvAll (xs.map pN) (ys.map pN) = decide (xs = ys)
  | [], [] => rfl
  | [], _ :: _ => rfl
  | _ :: _, [] => rfl
  | x :: xs, y :: ys => by
    show (PyData.eqv (.int (x : Int)) (.int (y : Int)) && PyData.eqvAll (xs.map pN) (ys.map pN)) = _
    rw [eqvAll_pN xs ys]
    show (((x : Int) == (y : Int)) && decide (xs = ys)) = _
    by_cases h : x = y <;> by_cases h2 : xs = ys <;> simp [h, h2]
    · intro z; exact absurd (Int.ofNat.inj z) h
theorem any_pN (n : Nat) : ∀ xs : List Nat, ((xs.map pN).any fun y => PyData.eqv y (.int (n : Int))) = decide (n ∈ xs)
  | [] => rfl
  | x :: xs => by
    rw [List.map_cons, List.any_cons, any_pN n xs]
    show (((x : Int) == (n : Int)) || decide (n ∈ xs)) = _
    by_cases h : x = n
    · subst h; simp
    · have : ¬ ((x : Int) = (n : Int)) := fun z => h (Int.ofNat.inj z)
      have h' : ¬ n = x := fun z => h z.symm
      simp [this, h']
theorem dEq_int (st : Store) (i j : Int) : dEq st (.int i) (.int j) = some (decide (i = j)) := by
  unfold dEq
  rw [toPy_int, toPy_int]
  show (if min (PyData.int i).depth (PyData.int j).depth ≤ 64 then some (i == j) else none) = _
  rw [if_pos (by show min 0 0 ≤ 64; decide)]; rfl
theorem dEq_bl (st : Store) (i j : Bool) : dEq st (.bl i) (.bl j) = some (decide (i = j)) := by
  cases i <;> cases j <;> rfl
theorem dEq_nums (st : Store) (xs ys : List Nat) : dEq st (nums xs) (nums ys) = some (decide (xs = ys)) := by
  unfold dEq
  simp only [toPy_nums]
  have d : ∀ xs : List Nat, (PyData.tuple (xs.map pN)).depth = 1 := fun xs => by
    show PyData.depthAll (xs.map pN) + 1 = 1
    rw [depthAll_pN]
  show (if min (PyData.tuple (xs.map pN)).depth (PyData.tuple (ys.map pN)).depth ≤ 64 then some (PyData.eqvAll (xs.map pN) (ys.map pN)) else none) = _
  rw [if_pos (by rw [d, d]; decide), eqvAll_pN]
theorem dNe_int (st : Store) (i j : Int) : dNe st (.int i) (.int j) = some (decide (i ≠ j)) := by
  unfold dNe; rw [dEq_int]; simp
theorem dNe_bl (st : Store) (i j : Bool) : dNe st (.bl i) (.bl j) = some (decide (i ≠ j)) := by
  unfold dNe; rw [dEq_bl]; simp
theorem dct_none {st : Store} {c : D} {ds : List D} (h : seqOf st c = some ds) : dctOf st c = none := by
  cases c <;> simp only [seqOf, dctOf] at h ⊢ <;> try (cases h; done)
  rename_i l
  rcases e : st[l]? with _ | (_ | _ | _) <;> simp_all
theorem dIn_seq {st : Store} {x c : D} {ds : List D} (h : seqOf st c = some ds) : dIn st x c = dInS st x c := by
  unfold dIn; rw [dct_none h]
theorem dIn_nsD (st : Store) (n : Nat) (c : D) (xs : List Nat) (h : seqOf st c = some (nsD xs)) : dIn st (dN n) c = some (decide (n ∈ xs)) := by
  rw [dIn_seq h]
  unfold dInS
  rw [toPy_int, h]
  dsimp only
  rw [toPys_nsD]
  dsimp only
  rw [depthAll_pN, if_pos (by show min 0 _ ≤ 64; omega), any_pN]
theorem dNotIn_nsD (st : Store) (n : Nat) (c : D) (xs : List Nat) (h : seqOf st c = some (nsD xs)) : dNotIn st (dN n) c = some (decide (n ∉ xs)) := by
  unfold dNotIn; rw [dIn_nsD st n c xs h]; simp

/-! ### steps -/
theorem bnd_ok {α β : Type} {m : M α} {f : α → M β} {st st1 : Store} {a : α} (h : m st = some (.ok a st1)) : bnd m f st = f a st1 := by unfold bnd; rw [h]
theorem bndN_ok {α β : Type} {m : M α} {f : α → M β} {st st1 : Store} {a : α} (h : m st = some (.ok a st1)) : bndN m f st = f a st1 := by unfold bndN; rw [h]
theorem sBnd_ok {α : Type} {m : M α} {σ : Env} {f : α → Store → Option RS} {st st1 : Store} {a : α} (h : m st = some (.ok a st1)) : sBnd m σ f st = f a st1 := by unfold sBnd; rw [h]
theorem seq_nx {a b : S} {σ σ1 : Env} {st st1 : Store} (h : a σ st = some (.nx σ1 st1)) : sSeq a b σ st = b σ1 st1 := by unfold sSeq; rw [h]
theorem seq_rt {a b : S} {σ : Env} {d : D} {st st1 : Store} (h : a σ st = some (.rt d st1)) : sSeq a b σ st = some (.rt d st1) := by unfold sSeq; rw [h]
theorem runB_rt {n : Nat} {b : S} {as : List D} {d : D} {st st1 : Store} (h : b (start n as) st = some (.rt d st1)) : runB n b as st = some (.ok d st1) := by unfold runB; rw [h]
theorem runB_nx {n : Nat} {b : S} {as : List D} {σ : Env} {st st1 : Store} (h : b (start n as) st = some (.nx σ st1)) : runB n b as st = some (.ok .non st1) := by unfold runB; rw [h]
def isLoc : D → Bool
  | .loc _ => true
  | _ => false
abbrev Good (st : Store) : Prop := okSt st.length st = true
theorem thaw_id {n : Nat} {st : Store} {d : D} (h : isLoc d = false) : thaw n st d = d := by cases d <;> first | rfl | cases h
/-- a function that keeps the store -/
theorem scp_same {m : M D} {st : Store} {d : D} (h : m st = some (.ok d st)) (hl : isLoc d = false) (hb : below st.length d = true) (g : Good st) : scp m st = some (.ok d st) := by
  unfold scp; rw [h]
  show (if below st.length (thaw st.length st d) && okSt st.length (st.take st.length) then some (R.ok (thaw st.length st d) (st.take st.length)) else none) = _
  rw [thaw_id hl, List.take_length, hb, g]; rfl
/-- .. that only changes what was there -/
theorem scp_keep {m : M D} {st st1 : Store} {d : D} (h : m st = some (.ok d st1)) (hl : isLoc d = false) (hn : st1.length = st.length) (hb : below st.length d = true) (g : Good st1) : scp m st = some (.ok d st1) := by
  unfold scp; rw [h]
  show (if below st.length (thaw st.length st1 d) && okSt st.length (st1.take st.length) then some (R.ok (thaw st.length st1 d) (st1.take st.length)) else none) = _
  rw [thaw_id hl, ← hn, List.take_length, hn, hb, ← hn, g]; rfl
/-- .. that makes lists for itself -/
theorem scp_own {m : M D} {st ext : Store} {d : D} (h : m st = some (.ok d (st ++ ext))) (hl : isLoc d = false) (hb : below st.length d = true) (g : Good st) : scp m st = some (.ok d st) := by
  unfold scp; rw [h]
  show (if below st.length (thaw st.length (st ++ ext) d) && okSt st.length ((st ++ ext).take st.length) then some (R.ok (thaw st.length (st ++ ext) d) ((st ++ ext).take st.length)) else none) = _
  rw [thaw_id hl, List.take_left, hb, g]; rfl
/-- .. and hands one of them back -/
theorem scp_new {m : M D} {st ext : Store} {k : Nat} {ds : List D} (h : m st = some (.ok (.loc (st.length + k)) (st ++ ext))) (he : ext[k]? = some (.lst ds)) (hb : belows st.length ds = true) (g : Good st) : scp m st = some (.ok (.lst ds) st) := by
  unfold scp; rw [h]
  have e : thaw st.length (st ++ ext) (.loc (st.length + k)) = .lst ds := by
    show (if st.length + k < st.length then _ else _) = _
    rw [if_neg (by omega), List.getElem?_append_right (by omega), show st.length + k - st.length = k by omega, he]
  show (if below st.length (thaw st.length (st ++ ext) (.loc (st.length + k))) && okSt st.length ((st ++ ext).take st.length) then some (R.ok (thaw st.length (st ++ ext) (.loc (st.length + k))) ((st ++ ext).take st.length)) else none) = _
  rw [e, List.take_left, g]
  show (if belows st.length ds && true then _ else _) = _
  rw [hb]; rfl

theorem belows_nsD (n : Nat) : ∀ xs : List Nat, belows n (nsD xs) = true
  | [] => rfl
  | x :: xs => by
    show (below n (.int (x : Int)) && belows n (nsD xs)) = true
    rw [belows_nsD n xs]; rfl
theorem belows_map {α : Type} (n : Nat) (f : α → D) (h : ∀ a, below n (f a) = true) : ∀ xs : List α, belows n (xs.map f) = true
  | [] => rfl
  | x :: xs => by
    show (below n (f x) && belows n (xs.map f)) = true
    rw [belows_map n f h xs, h]; rfl
theorem below_nums (n : Nat) (xs : List Nat) : below n (nums xs) = true := belows_nsD n xs

theorem rangeD_nat (a b : Nat) : rangeD a b = nsD ((List.range (b - a)).map (a + ·)) := by
  unfold rangeD nsD
  rw [List.map_map]
  have : ((b : Int) - (a : Int)).toNat = b - a := by omega
  rw [this]
  rfl
theorem rangeD_0 (b : Nat) : rangeD 0 b = nsD (List.range b) := by
  have := rangeD_nat 0 b
  simpa using this
theorem small_nat (n : Nat) (h : n ≤ 1000000) : small62 (n : Int) = true := by
  rw [small62_eq]
  simp only [Bool.and_eq_true, decide_eq_true_eq]
  omega

/-! ### comprehensions and loops over lists -/
section
variable {α : Type}
/-- a comprehension whose test and item keep the store -/
theorem compFix_pure {g : G} {t : T} {e : E} {σ : Env} {st : Store} (f : α → D) (s : α → Env) (p : α → Bool) (q : α → D) : ∀ (xs : List α), (∀ x ∈ xs, g (f x) σ = some (s x)) → (∀ x ∈ xs, t (s x) st = some (.ok (p x) st)) → (∀ x ∈ xs, p x = true → e (s x) st = some (.ok (q x) st)) →
    compFix g t e σ (xs.map f) st = some (.ok ((xs.filter p).map q) st)
  | [], _, _, _ => rfl
  | x :: xs, h1, h2, h3 => by
    have ih := compFix_pure f s p q xs (fun y hy => h1 y (List.mem_cons_of_mem _ hy)) (fun y hy => h2 y (List.mem_cons_of_mem _ hy)) (fun y hy => h3 y (List.mem_cons_of_mem _ hy))
    rw [List.map_cons]
    unfold compFix
    rw [h1 x List.mem_cons_self]
    dsimp only
    rw [bndN_ok (h2 x List.mem_cons_self)]
    cases hp : p x with
    | true =>
      rw [if_pos rfl, bndN_ok (h3 x List.mem_cons_self hp), bndN_ok ih, List.filter_cons_of_pos hp]
      rfl
    | false => rw [if_neg Bool.false_ne_true, ih, List.filter_cons_of_neg (by simp [hp])]
theorem lComp_fix {s : I} {g : G} {t : T} {e : E} {vs : List Nat} {σ : Env} {st st1 st2 : Store} {ds rs : List D} (h : s σ st = some (.ok (.fix ds) st1)) (h2 : compFix g t e (wipe σ vs) ds st1 = some (.ok rs st2)) (hl : okLen rs.length = true) : lComp s g t e vs σ st = some (.ok rs st2) := by
  unfold lComp
  rw [bnd_ok h]
  dsimp only
  rw [bnd_ok h2, if_pos hl]
  rfl
theorem filter_yes (xs : List α) : xs.filter (fun _ => true) = xs := List.filter_eq_self.mpr fun _ _ => rfl
/-- a comprehension over a list whose test and item keep the store -/
theorem lComp_pure {s : I} {g : G} {t : T} {e : E} {vs : List Nat} {σ : Env} {st : Store} (f : α → D) (sg : α → Env) (p : α → Bool) (q : α → D) (xs : List α) (h : s σ st = some (.ok (.fix (xs.map f)) st)) (h1 : ∀ x ∈ xs, g (f x) (wipe σ vs) = some (sg x)) (h2 : ∀ x ∈ xs, t (sg x) st = some (.ok (p x) st)) (h3 : ∀ x ∈ xs, p x = true → e (sg x) st = some (.ok (q x) st))
    (hl : okLen xs.length = true) : lComp s g t e vs σ st = some (.ok ((xs.filter p).map q) st) := by
  refine lComp_fix h (compFix_pure f sg p q xs h1 h2 h3) ?_
  rw [okLen_eq] at hl ⊢
  rw [List.length_map]
  have := List.length_filter_le p xs
  simp only [decide_eq_true_eq] at hl ⊢
  omega
theorem lComp_all {s : I} {g : G} {e : E} {vs : List Nat} {σ : Env} {st : Store} (f : α → D) (sg : α → Env) (q : α → D) (xs : List α) (h : s σ st = some (.ok (.fix (xs.map f)) st)) (h1 : ∀ x ∈ xs, g (f x) (wipe σ vs) = some (sg x)) (h3 : ∀ x ∈ xs, e (sg x) st = some (.ok (q x) st))
    (hl : okLen xs.length = true) : lComp s g tYes e vs σ st = some (.ok (xs.map q) st) := by
  have := lComp_pure (t := tYes) f sg (fun _ => true) q xs h h1 (fun _ _ => rfl) (fun x hx _ => h3 x hx) hl
  rwa [filter_yes] at this
theorem blsOf_map (p : α → Bool) : ∀ xs : List α, blsOf (xs.map fun x => D.bl (p x)) = some (xs.map p)
  | [] => rfl
  | x :: xs => by
    show (match blsOf (xs.map fun x => D.bl (p x)) with | some bs => some (p x :: bs) | none => none) = _
    rw [blsOf_map p xs]; rfl
theorem gAll_map (st : Store) (p : α → Bool) (xs : List α) : gAll st (.lst (xs.map fun x => D.bl (p x))) = some (.bl (xs.all p)) := by
  show (match blsOf (xs.map fun x => D.bl (p x)) with | some bs => some (D.bl (bs.all id)) | none => none) = _
  rw [blsOf_map]
  simp [List.all_map]
theorem forFix_ind {g : G} {b : S} (f : α → D) (I : List α → Env → Store → Prop) : ∀ (xs pre : List α) (σ : Env) (st : Store), (∀ (p : List α) (x : α) (q : List α) (σ : Env) (st : Store), p ++ x :: q = pre ++ xs → I p σ st → ∃ σ1 σ2 st2, g (f x) σ = some σ1 ∧ b σ1 st = some (.nx σ2 st2) ∧ I (p ++ [x]) σ2 st2) → I pre σ st →
    ∃ σ' st', forFix g b (xs.map f) σ st = some (.nx σ' st') ∧ I (pre ++ xs) σ' st'
  | [], pre, σ, st, _, h => ⟨σ, st, rfl, by rwa [List.append_nil]⟩
  | x :: xs, pre, σ, st, hs, h => by
    obtain ⟨σ1, σ2, st2, e1, e2, h2⟩ := hs pre x xs σ st rfl h
    obtain ⟨σ', st', e3, h3⟩ := forFix_ind f I xs (pre ++ [x]) σ2 st2 (fun p y q σ st e => hs p y q σ st (by rw [e, List.append_assoc]; rfl)) h2
    refine ⟨σ', st', ?_, by rwa [List.append_assoc] at h3⟩
    rw [List.map_cons]
    unfold forFix
    rw [e1]
    dsimp only
    rw [e2]
    exact e3
end
end Mi
set_option Elab.async false
set_option linter.all false
set_option autoImplicit false
set_option maxRecDepth 100000
/-! the combinators run by rules: one rule a construct, its outcome found by unification -/
noncomputable section
namespace Mi
open PySem

/-! ### encodings -/
/-- values of a Lean type as values of the program -/
class Enc {α : Type} (f : α → D) where
  py : α → PyData
  dep : Nat
  toPy : ∀ (ρ : Nat → Option PyData) (x : α), Mi.py ρ (f x) = some (py x)
  low : ∀ (n : Nat) (x : α), below n (f x) = true
  nl : ∀ x, isLoc (f x) = false
  dle : ∀ x, (py x).depth ≤ dep
class EncEq {α : Type} [DecidableEq α] (f : α → D) [Enc f] : Prop where
  eqv : ∀ x y : α, PyData.eqv (Enc.py f x) (Enc.py f y) = decide (x = y)
abbrev iN (i : Int) : D := .int i
abbrev bN (b : Bool) : D := .bl b
abbrev tD {α : Type} (f : α → D) (xs : List α) : D := .tup (xs.map f)
abbrev lD {α : Type} (f : α → D) (xs : List α) : D := .lst (xs.map f)
abbrev pD {α β : Type} (f : α → D) (g : β → D) (p : α × β) : D := .tup [f p.1, g p.2]
abbrev oD {α : Type} (f : α → D) : Option α → D
  | none => .non
  | some x => f x
section
variable {α β : Type}
theorem pys_map (f : α → D) [Enc f] (ρ : Nat → Option PyData) : ∀ xs : List α, pys ρ (xs.map f) = some (xs.map (Enc.py f))
  | [] => rfl
  | x :: xs => by
    rw [List.map_cons, List.map_cons]
    unfold pys
    rw [Enc.toPy ρ x, pys_map f ρ xs]
theorem belows_enc (f : α → D) [Enc f] (n : Nat) : ∀ xs : List α, belows n (xs.map f) = true
  | [] => rfl
  | x :: xs => by
    rw [List.map_cons]
    unfold belows
    rw [Enc.low n x, belows_enc f n xs]; rfl
theorem depthAll_map (f : α → D) [Enc f] : ∀ xs : List α, PyData.depthAll (xs.map (Enc.py f)) ≤ Enc.dep f
  | [] => Nat.zero_le _
  | x :: xs => by
    rw [List.map_cons]
    show max (Enc.py f x).depth (PyData.depthAll (xs.map (Enc.py f))) ≤ _
    have := Enc.dle (f := f) x
    have := depthAll_map f xs
    omega
theorem eqvAll_map (f : α → D) [DecidableEq α] [Enc f] [EncEq f] : ∀ xs ys : List α, PyData.eqvAll (xs.map (Enc.py f)) (ys.map (Enc.py f)) = decide (xs = ys)
  | [], [] => rfl
  | [], _ :: _ => rfl
  | _ :: _, [] => rfl
  | x :: xs, y :: ys => by
    rw [List.map_cons, List.map_cons]
    show (PyData.eqv (Enc.py f x) (Enc.py f y) && PyData.eqvAll (xs.map (Enc.py f)) (ys.map (Enc.py f))) = _
    rw [EncEq.eqv (f := f) x y, eqvAll_map f xs ys]
    by_cases h : x = y <;> by_cases h2 : xs = ys <;> simp [h, h2]
instance : Enc iN := ⟨fun i => .int i, 0, fun _ _ => rfl, fun _ _ => rfl, fun _ => rfl, fun _ => Nat.le_refl _⟩
instance : EncEq iN := ⟨fun x y => by show (x == y) = _; rfl⟩
instance : Enc dN := ⟨fun i => .int (i : Int), 0, fun _ _ => rfl, fun _ _ => rfl, fun _ => rfl, fun _ => Nat.le_refl _⟩
instance : EncEq dN := ⟨fun x y => by
  show ((x : Int) == (y : Int)) = _
  by_cases h : x = y
  · subst h; simp
  · have : ¬ ((x : Int) = (y : Int)) := fun z => h (Int.ofNat.inj z)
    simp [h, this]⟩
instance : Enc bN := ⟨fun i => .bool i, 0, fun _ _ => rfl, fun _ _ => rfl, fun _ => rfl, fun _ => Nat.le_refl _⟩
instance : EncEq bN := ⟨fun x y => by cases x <;> cases y <;> rfl⟩
instance (f : α → D) [Enc f] : Enc (tD f) := ⟨fun xs => .tuple (xs.map (Enc.py f)), Enc.dep f + 1, fun ρ xs => by unfold Mi.py; rw [pys_map f ρ xs], fun n xs => belows_enc f n xs, fun _ => rfl, fun xs => by
  show PyData.depthAll (xs.map (Enc.py f)) + 1 ≤ _
  have := depthAll_map f xs
  omega⟩
instance (f : α → D) [DecidableEq α] [Enc f] [EncEq f] : EncEq (tD f) := ⟨fun xs ys => eqvAll_map f xs ys⟩
instance (f : α → D) [Enc f] : Enc (lD f) := ⟨fun xs => .list (xs.map (Enc.py f)), Enc.dep f + 1, fun ρ xs => by unfold Mi.py; rw [pys_map f ρ xs], fun n xs => belows_enc f n xs, fun _ => rfl, fun xs => by
  show PyData.depthAll (xs.map (Enc.py f)) + 1 ≤ _
  have := depthAll_map f xs
  omega⟩
instance (f : α → D) [DecidableEq α] [Enc f] [EncEq f] : EncEq (lD f) := ⟨fun xs ys => eqvAll_map f xs ys⟩
instance (f : α → D) (g : β → D) [Enc f] [Enc g] : Enc (pD f g) := ⟨fun p => .tuple [Enc.py f p.1, Enc.py g p.2], max (Enc.dep f) (Enc.dep g) + 1, fun ρ p => by
  unfold Mi.py pys pys pys; rw [Enc.toPy ρ p.1, Enc.toPy ρ p.2], fun n p => by
  show (below n (f p.1) && (below n (g p.2) && true)) = true
  rw [Enc.low, Enc.low]; rfl, fun _ => rfl, fun p => by
  show max (Enc.py f p.1).depth (max (Enc.py g p.2).depth 0) + 1 ≤ _
  have := Enc.dle (f := f) p.1
  have := Enc.dle (f := g) p.2
  omega⟩
instance (f : α → D) (g : β → D) [DecidableEq α] [DecidableEq β] [Enc f] [Enc g] [EncEq f] [EncEq g] : EncEq (pD f g) := ⟨fun x y => by
  show (PyData.eqv (Enc.py f x.1) (Enc.py f y.1) && (PyData.eqv (Enc.py g x.2) (Enc.py g y.2) && true)) = _
  rw [EncEq.eqv (f := f), EncEq.eqv (f := g)]
  obtain ⟨a, b⟩ := x
  obtain ⟨c, d⟩ := y
  by_cases h : a = c <;> by_cases h2 : b = d <;> simp [h, h2]⟩
end
theorem okLen_of (n : Nat) (h : n ≤ 1000000) : okLen n = true := by rw [okLen_eq]; exact decide_eq_true (by omega)
theorem okLt_of (n : Nat) (h : n ≤ 1000000) : okLt n = true := by rw [okLt_eq]; exact decide_eq_true (by omega)
theorem small_of (i : Int) (h : -1000000 ≤ i) (h2 : i ≤ 1000000) : small62 i = true := by
  rw [small62_eq, Bool.and_eq_true]; exact ⟨decide_eq_true (by omega), decide_eq_true (by omega)⟩
theorem small_nat' (n : Nat) (h : n ≤ 1000000) : small62 (n : Int) = true := small_of _ (by omega) (by omega)

section
variable {α β γ : Type} {a b c o i : E} {es er : EL} {t u : T} {σ σ1 σ2 : Env} {st s1 s2 s3 : Store} {d x y z : D} {ds xs : List D} {p q : S} {n k m : Nat} {f : α → D} {g : β → D} {B : Bool}

/-! ### the store -/
theorem at_last {s : Store} {o : O} : (s ++ [o])[s.length]? = some o := by
  rw [List.getElem?_append_right (Nat.le_refl _), Nat.sub_self]; rfl
theorem at_ext0 {s ext : Store} {o : O} (h : ext[0]? = some o) : (s ++ ext)[s.length]? = some o := by
  rw [List.getElem?_append_right (Nat.le_refl _), Nat.sub_self]; exact h
theorem at_ext {s ext : Store} {o : O} {k : Nat} (h : ext[k]? = some o) : (s ++ ext)[s.length + k]? = some o := by
  rw [List.getElem?_append_right (Nat.le_add_right _ _), Nat.add_sub_cancel_left]; exact h
theorem at_old {s ext : Store} {o : O} {l : Nat} (h : s[l]? = some o) : (s ++ ext)[l]? = some o := by
  rw [List.getElem?_append_left (List.getElem?_eq_some_iff.mp h).1]; exact h
theorem at_set {s : Store} {o u : O} {l : Nat} (h : s[l]? = some u) : (s.set l o)[l]? = some o := by
  rw [List.getElem?_set_self (List.getElem?_eq_some_iff.mp h).1]
theorem set_ext0 {s ext : Store} {o : O} : (s ++ ext).set s.length o = s ++ ext.set 0 o := by
  rw [List.set_append_right _ _ (Nat.le_refl _), Nat.sub_self]
theorem set_ext {s ext : Store} {o : O} {k : Nat} : (s ++ ext).set (s.length + k) o = s ++ ext.set k o := by
  rw [List.set_append_right _ _ (Nat.le_add_right _ _), Nat.add_sub_cancel_left]
/-! ### expressions -/
theorem look_ok {α : Type} {f : Store → Option α} {x : α} (h : f st = some x) : look f st = some (.ok x st) := by
  show (match f st with | some a => some (R.ok a st) | none => none) = _
  rw [h]
theorem need_ok {α : Type} {o : Option α} {x : α} (h : o = some x) : need o st = some (.ok x st) := by subst h; rfl
theorem ev_var (h : σ[n]? = some (some d)) : eVar n σ st = some (.ok d st) := by
  unfold eVar need; rw [h]
theorem ev_c : eC d σ st = some (.ok d st) := rfl
theorem ev_nil : eNil σ st = some (.ok [] st) := rfl
theorem ev_cons (h : a σ st = some (.ok d s1)) (h2 : es σ s1 = some (.ok ds s2)) : eCons a es σ st = some (.ok (d :: ds) s2) := by
  unfold eCons; rw [bnd_ok h, bnd_ok h2]; rfl
theorem ev_tup (h : es σ st = some (.ok ds s1)) (hl : okLen ds.length = true) : eTup es σ st = some (.ok (.tup ds) s1) := by
  unfold eTup; rw [bnd_ok h, if_pos hl]; rfl
theorem ev_bin {f : Op} (h : a σ st = some (.ok x s1)) (h2 : b σ s1 = some (.ok y s2)) (hf : f x y = some d) : eBin f a b σ st = some (.ok d s2) := by
  unfold eBin; rw [bnd_ok h, bnd_ok h2]; exact need_ok hf
theorem ev_neg {j : Int} (h : a σ st = some (.ok (.int j) s1)) : eNeg a σ st = some (.ok (.int (-j)) s1) := by
  unfold eNeg; rw [bnd_ok h]; rfl
theorem ev_u {g : Store → D → Option D} (h : a σ st = some (.ok x s1)) (e : g s1 x = some d) : eU' g a σ st = some (.ok d s1) := by
  unfold eU'; rw [bnd_ok h]; refine look_ok ?_; rw [e]
theorem ev_ix (h : a σ st = some (.ok x s1)) (h2 : b σ s1 = some (.ok y s2)) (e : dIx s2 x y = some d) : eIx a b σ st = some (.ok d s2) := by
  unfold eIx; rw [bnd_ok h, bnd_ok h2]; refine look_ok ?_; rw [e]
theorem ev_l (h : es σ st = some (.ok ds s1)) : eL es σ st = some (.ok (.lst ds) s1) := by
  unfold eL; rw [bnd_ok h]; rfl
/-- o is laid behind s1, at l -/
structure Push (s1 : Store) (o : O) (l : Nat) (s2 : Store) : Prop where
  l : l = s1.length
  s : s2 = s1 ++ [o]
theorem push_base {o : O} : Push s1 o s1.length (s1 ++ [o]) := ⟨rfl, rfl⟩
theorem push_ext {s0 ext : Store} {o : O} : Push (s0 ++ ext) o (s0.length + ext.length) (s0 ++ (ext ++ [o])) := ⟨by rw [List.length_append], by rw [List.append_assoc]⟩
theorem ev_new {l : Nat} (h : es σ st = some (.ok ds s1)) (e : Push s1 (.lst ds) l s2) : eNew es σ st = some (.ok (.loc l) s2) := by
  obtain ⟨rfl, rfl⟩ := e
  unfold eNew; rw [bnd_ok h]
theorem ev_b (h : t σ st = some (.ok B s1)) : eB t σ st = some (.ok (.bl B) s1) := by
  unfold eB; rw [bnd_ok h]; rfl
theorem ev_e (h : a σ st = some (.ok (.bl B) s1)) : tE a σ st = some (.ok B s1) := by
  unfold tE; rw [bnd_ok h]; rfl
theorem ev_isi {c : String} (h : a σ st = some (.ok x s1)) (e : dIsi c s1 x = some B) : eIsi c a σ st = some (.ok (.bl B) s1) := by
  unfold eIsi; rw [bnd_ok h]; refine look_ok ?_; rw [e]
theorem ev_isi2 {c c' : String} (h : a σ st = some (.ok x s1)) (e : dIsi2 c c' s1 x = some B) : eIsi2 c c' a σ st = some (.ok (.bl B) s1) := by
  unfold eIsi2; rw [bnd_ok h]; refine look_ok ?_; rw [e]
theorem ev_call {f : Fn} {r : Option (R D)} (h : es σ st = some (.ok ds s1)) (h2 : f ds s1 = r) : eCall f es σ st = r := by
  unfold eCall; rw [bnd_ok h]; exact h2
/-- slices -/
theorem ev_sl {l h : P} {lo hi : Option Int} (h1 : a σ st = some (.ok x s1)) (h2 : l σ s1 = some (.ok lo s2)) (h3 : h σ s2 = some (.ok hi s3)) (e : dSl s3 x lo hi = some d) : eSl a l h σ st = some (.ok d s3) := by
  unfold eSl; rw [bnd_ok h1, bnd_ok h2, bnd_ok h3]; refine look_ok ?_; rw [e]
theorem ev_pno : pNo σ st = some (.ok none st) := rfl
theorem ev_pat {j : Int} (h : a σ st = some (.ok (.int j) s1)) : pAt a σ st = some (.ok (some j) s1) := by
  unfold pAt; rw [bnd_ok h]; rfl
/-- a choice -/
theorem ev_if {r : Option (R D)} (h : t σ st = some (.ok B s1)) (h2 : (if B = true then a σ s1 else b σ s1) = r) : eIf t a b σ st = r := by
  unfold eIf; rw [bnd_ok h]; rw [← h2]; cases B <;> rfl
theorem if_t {γ : Type} {v w r : γ} (h : B = true) (h2 : v = r) : (if B = true then v else w) = r := by rw [if_pos h]; exact h2
theorem if_f {γ : Type} {v w r : γ} (h : B = false) (h2 : w = r) : (if B = true then v else w) = r := by rw [h, if_neg Bool.false_ne_true]; exact h2
theorem if_both {m m' : Option (R D)} {x y : D} (h : B = true → m = some (.ok x s1)) (h2 : B = false → m' = some (.ok y s1)) : (if B = true then m else m') = some (.ok (if B = true then x else y) s1) := by
  cases B
  · rw [if_neg Bool.false_ne_true, if_neg Bool.false_ne_true]; exact h2 rfl
  · rw [if_pos rfl, if_pos rfl]; exact h rfl
/-! ### tests -/
theorem ev_cmp {f : Cmp} (h : a σ st = some (.ok x s1)) (h2 : b σ s1 = some (.ok y s2)) (e : f s2 x y = some B) : tCmp f a b σ st = some (.ok B s2) := by
  unfold tCmp; rw [bnd_ok h, bnd_ok h2]; refine look_ok ?_; rw [e]
def andK (B : Bool) (m : Option (R Bool)) (st : Store) : Option (R Bool) := if B then m else some (.ok false st)
def orK (B : Bool) (m : Option (R Bool)) (st : Store) : Option (R Bool) := if B then some (.ok true st) else m
theorem ev_and {r : Option (R Bool)} (h : t σ st = some (.ok B s1)) (h2 : andK B (u σ s1) s1 = r) : tAnd t u σ st = r := by
  unfold tAnd; rw [bnd_ok h]; rw [← h2]; cases B <;> rfl
theorem ev_or {r : Option (R Bool)} (h : t σ st = some (.ok B s1)) (h2 : orK B (u σ s1) s1 = r) : tOr t u σ st = r := by
  unfold tOr; rw [bnd_ok h]; rw [← h2]; cases B <;> rfl
theorem andK_t {m r : Option (R Bool)} (h : B = true) (h2 : m = r) : andK B m st = r := by subst h; exact h2
theorem andK_f {m : Option (R Bool)} (h : B = false) : andK B m st = some (.ok false st) := by subst h; rfl
theorem andK_b {m : Option (R Bool)} {C : Bool} (h : B = true → m = some (.ok C st)) : andK B m st = some (.ok (B && C) st) := by
  cases B
  · rfl
  · exact h rfl
theorem orK_f {m r : Option (R Bool)} (h : B = false) (h2 : m = r) : orK B m st = r := by subst h; exact h2
theorem orK_t {m : Option (R Bool)} (h : B = true) : orK B m st = some (.ok true st) := by subst h; rfl
theorem orK_b {m : Option (R Bool)} {C : Bool} (h : B = false → m = some (.ok C st)) : orK B m st = some (.ok (B || C) st) := by
  cases B
  · exact h rfl
  · rfl
theorem ev_not (h : t σ st = some (.ok B s1)) : tNot t σ st = some (.ok (!B) s1) := by
  unfold tNot; rw [bnd_ok h]; rfl
theorem ev_yes : tYes σ st = some (.ok true st) := rfl
theorem ev_chain {f g : Cmp} {r : Option (R Bool)} (h : a σ st = some (.ok x s1)) (h2 : b σ s1 = some (.ok y s2)) (e : f s2 x y = some B) (h3 : andK B (bnd (c σ) (fun z => look fun st => g st y z) s2) s2 = r) : tChain f g a b c σ st = r := by
  unfold tChain; rw [bnd_ok h, bnd_ok h2]
  have e1 : look (fun st => f st x y) s2 = some (.ok B s2) := by refine look_ok ?_; rw [e]
  rw [bnd_ok e1, ← h3]
  cases B <;> rfl
theorem ev_chain2 {g : Cmp} {C : Bool} (h : c σ st = some (.ok z s1)) (e : g s1 y z = some C) : bnd (c σ) (fun z => look fun st => g st y z) st = some (.ok C s1) := by
  rw [bnd_ok h]; refine look_ok ?_; rw [e]
def eAndK (B : Bool) (m : Option (R D)) (st : Store) : Option (R D) := if B then m else some (.ok (.bl false) st)
def eOrK (B : Bool) (m : Option (R D)) (st : Store) : Option (R D) := if B then some (.ok (.bl true) st) else m
theorem ev_eand {r : Option (R D)} (h : a σ st = some (.ok (.bl B) s1)) (h2 : eAndK B (b σ s1) s1 = r) : eAnd a b σ st = r := by
  unfold eAnd; rw [bnd_ok h, ← h2]; cases B <;> rfl
theorem ev_eor {r : Option (R D)} (h : a σ st = some (.ok (.bl B) s1)) (h2 : eOrK B (b σ s1) s1 = r) : eOr a b σ st = r := by
  unfold eOr; rw [bnd_ok h, ← h2]; cases B <;> rfl
theorem eAndK_t {m r : Option (R D)} (h : B = true) (h2 : m = r) : eAndK B m st = r := by subst h; exact h2
theorem eAndK_f {m : Option (R D)} (h : B = false) : eAndK B m st = some (.ok (.bl false) st) := by subst h; rfl
theorem eAndK_b {m : Option (R D)} {C : Bool} (h : B = true → m = some (.ok (.bl C) st)) : eAndK B m st = some (.ok (.bl (B && C)) st) := by
  cases B
  · rfl
  · exact h rfl
theorem eOrK_f {m r : Option (R D)} (h : B = false) (h2 : m = r) : eOrK B m st = r := by subst h; exact h2
theorem eOrK_t {m : Option (R D)} (h : B = true) : eOrK B m st = some (.ok (.bl true) st) := by subst h; rfl
theorem eOrK_b {m : Option (R D)} {C : Bool} (h : B = false → m = some (.ok (.bl C) st)) : eOrK B m st = some (.ok (.bl (B || C)) st) := by
  cases B
  · exact h rfl
  · rfl

/-! ### lists -/
theorem ev_disp (h : es σ st = some (.ok ds s1)) (hl : okLen ds.length = true) : lDisp es σ st = some (.ok ds s1) := by
  unfold lDisp; rw [bnd_ok h, if_pos hl]; rfl
theorem ev_lof (h : a σ st = some (.ok x s1)) (e : seqOf s1 x = some ds) : lOf a σ st = some (.ok ds s1) := by
  unfold lOf; rw [bnd_ok h]; refine look_ok ?_; rw [e]
theorem ev_ladd (h : a σ st = some (.ok x s1)) (h2 : b σ s1 = some (.ok y s2)) (e1 : lstOf s2 x = some ds) (e2 : lstOf s2 y = some xs) (hl : okLen (ds.length + xs.length) = true) : lAdd a b σ st = some (.ok (ds ++ xs) s2) := by
  unfold lAdd; rw [bnd_ok h, bnd_ok h2]; refine look_ok ?_; rw [e1, e2]; dsimp only; rw [if_pos hl]
theorem ev_lsorted (h : a σ st = some (.ok x s1)) (e1 : lstOf s1 x = some ds) (e2 : sortD s1 ds = some xs) : lSorted a σ st = some (.ok xs s1) := by
  unfold lSorted; rw [bnd_ok h]; refine look_ok ?_; rw [e1]; dsimp only; rw [e2]
theorem rgOk_nat (n : Nat) (h : n ≤ 1000000) : rgOk 0 (n : Int) = true := by
  rw [rgOk_eq, small_nat' n h, small_of 0 (by omega) (by omega)]
  simp; omega
theorem rgOk_nat2 (k n : Nat) (h : n ≤ 1000000) (h2 : k ≤ 1000000) : rgOk (k : Int) (n : Int) = true := by
  rw [rgOk_eq, small_nat' n h, small_nat' k h2]
  simp; omega
theorem rangeD_map (n : Nat) : rangeD 0 (n : Int) = (List.range n).map dN := by rw [rangeD_0]; rfl
theorem rangeD_map2 (k n : Nat) : rangeD (k : Int) (n : Int) = (List.range' k (n - k)).map dN := by
  rw [rangeD_nat, List.range'_eq_map_range]; rfl
theorem ev_lrange (h : a σ st = some (.ok (dN n) s1)) (hl : n ≤ 1000000) : lRange a σ st = some (.ok ((List.range n).map dN) s1) := by
  unfold lRange; rw [bnd_ok h]; refine need_ok ?_; dsimp only; rw [if_pos (rgOk_nat n hl), rangeD_map]
theorem ev_lrange2 (h : a σ st = some (.ok (dN k) s1)) (h2 : b σ s1 = some (.ok (dN n) s2)) (hl : n ≤ 1000000) (hl2 : k ≤ 1000000) : lRange2 a b σ st = some (.ok ((List.range' k (n - k)).map dN) s2) := by
  unfold lRange2; rw [bnd_ok h, bnd_ok h2]; refine need_ok ?_; dsimp only; rw [if_pos (rgOk_nat2 k n hl hl2), rangeD_map2]
theorem rep_map (xs : List α) (f : α → D) (n : Nat) : (List.replicate n (xs.map f)).flatten = (List.replicate n xs).flatten.map f := by
  rw [List.map_flatten, List.map_replicate]
theorem ev_lrep1 (h : a σ st = some (.ok x s1)) (h2 : b σ s1 = some (.ok (dN n) s2)) (e1 : lstOf s2 x = some [d]) (hl : n ≤ 1000000) : lRep a b σ st = some (.ok (List.replicate n d) s2) := by
  unfold lRep; rw [bnd_ok h, bnd_ok h2]; refine look_ok ?_; rw [e1]; dsimp only
  rw [if_pos (by rw [Bool.and_eq_true]; exact ⟨small_nat' n hl, okLen_of _ (by simpa using hl)⟩)]
  congr 2
  simp [List.flatten_replicate_singleton]

/-! ### what is walked -/
def srcOf : D → Option (List D)
  | .tup ds => some ds
  | .lst ds => some ds
  | .rol ds => some ds
  | .rng i j => some (rangeD i j)
  | _ => none
theorem ev_iof (h : a σ st = some (.ok x s1)) (e : srcOf x = some ds) : iOf a σ st = some (.ok (.fix ds) s1) := by
  unfold iOf; rw [bnd_ok h]
  refine look_ok ?_
  cases x <;> simp only [srcOf] at e <;> first | (cases e; rfl) | (cases e; done)
theorem src_rng : srcOf (.rng 0 (n : Int)) = some ((List.range n).map dN) := by
  show some (rangeD 0 (n : Int)) = _
  rw [rangeD_map]
theorem ev_irange (h : a σ st = some (.ok (dN n) s1)) (hl : n ≤ 1000000) : iRange a σ st = some (.ok (.fix ((List.range n).map dN)) s1) := by
  unfold iRange; rw [bnd_ok h]; refine need_ok ?_; dsimp only; rw [if_pos (small_nat' n hl), rangeD_map]
theorem ev_irange2 (h : a σ st = some (.ok (dN k) s1)) (h2 : b σ s1 = some (.ok (dN n) s2)) (hl : n ≤ 1000000) (hl2 : k ≤ 1000000) : iRange2 a b σ st = some (.ok (.fix ((List.range' k (n - k)).map dN)) s2) := by
  unfold iRange2; rw [bnd_ok h, bnd_ok h2]; refine need_ok ?_; dsimp only; rw [if_pos (by rw [small_nat' n hl, small_nat' k hl2]; rfl), rangeD_map2]
theorem enum_map' (f : α → D) : ∀ (xs : List α) (n : Nat), enumFrom n (xs.map f) = (xs.zipIdx n).map fun p => D.tup [dN p.2, f p.1]
  | [], _ => rfl
  | x :: xs, n => by
    show D.tup [.int n, f x] :: enumFrom (n + 1) (xs.map f) = _
    rw [enum_map' f xs (n + 1)]
    rfl
theorem zip_map' (f : α → D) (g : β → D) : ∀ (xs : List α) (ys : List β), zipD (xs.map f) (ys.map g) = (xs.zip ys).map fun p => D.tup [f p.1, g p.2]
  | [], _ => rfl
  | _ :: _, [] => rfl
  | x :: xs, y :: ys => by
    show D.tup [f x, g y] :: zipD (xs.map f) (ys.map g) = _
    rw [zip_map' f g xs ys]; rfl
def enumOf : D → Option (List D)
  | .tup ds => some (enumFrom 0 ds)
  | .lst ds => some (enumFrom 0 ds)
  | _ => none
theorem ev_ienum (h : a σ st = some (.ok x s1)) (e : enumOf x = some ds) : iEnum a σ st = some (.ok (.fix ds) s1) := by
  unfold iEnum; rw [bnd_ok h]
  refine need_ok ?_
  cases x <;> simp only [enumOf] at e <;> first | (cases e; rfl) | (cases e; done)
theorem enum_t {xs : List α} : enumOf (.tup (xs.map f)) = some (xs.zipIdx.map fun p => D.tup [dN p.2, f p.1]) := by
  show some (enumFrom 0 (xs.map f)) = _
  rw [enum_map']
theorem enum_l {xs : List α} : enumOf (.lst (xs.map f)) = some (xs.zipIdx.map fun p => D.tup [dN p.2, f p.1]) := enum_t
def zipOf : D → D → Option (List D)
  | .tup xs, .tup ys => some (zipD xs ys)
  | .lst xs, .lst ys => some (zipD xs ys)
  | _, _ => none
theorem ev_izip (h : a σ st = some (.ok x s1)) (h2 : b σ s1 = some (.ok y s2)) (e : zipOf x y = some ds) : iZip a b σ st = some (.ok (.fix ds) s2) := by
  unfold iZip; rw [bnd_ok h, bnd_ok h2]
  refine need_ok ?_
  cases x <;> cases y <;> simp only [zipOf] at e <;> first | (cases e; rfl) | (cases e; done)
theorem zip_tt {xs : List α} {ys : List β} : zipOf (.tup (xs.map f)) (.tup (ys.map g)) = some ((xs.zip ys).map fun p => D.tup [f p.1, g p.2]) := by
  show some (zipD (xs.map f) (ys.map g)) = _
  rw [zip_map']
theorem zip_ll {xs : List α} {ys : List β} : zipOf (.lst (xs.map f)) (.lst (ys.map g)) = some ((xs.zip ys).map fun p => D.tup [f p.1, g p.2]) := zip_tt
theorem ev_il (h : es σ st = some (.ok ds s1)) : iL es σ st = some (.ok (.fix ds) s1) := by
  unfold iL; rw [bnd_ok h]; rfl

/-! ### comprehensions -/
theorem comp_go {G : G} {t : T} {e : E} {σ : Env} {st : Store} {f : α → D} (s : α → Env) (p : α → Bool) (q : α → D) : ∀ (xs : List α), (∀ x ∈ xs, G (f x) σ = some (s x)) → (∀ x ∈ xs, t (s x) st = some (.ok (p x) st)) → (∀ x ∈ xs, p x = true → e (s x) st = some (.ok (q x) st)) →
    compFix G t e σ (xs.map f) st = some (.ok ((xs.filter p).map q) st)
  | [], _, _, _ => rfl
  | x :: xs, h1, h2, h3 => by
    have ih := comp_go s p q xs (fun y hy => h1 y (List.mem_cons_of_mem _ hy)) (fun y hy => h2 y (List.mem_cons_of_mem _ hy)) (fun y hy => h3 y (List.mem_cons_of_mem _ hy))
    rw [List.map_cons]
    unfold compFix
    rw [h1 x List.mem_cons_self]
    dsimp only
    rw [bndN_ok (h2 x List.mem_cons_self)]
    cases hp : p x with
    | true =>
      rw [if_pos rfl, bndN_ok (h3 x List.mem_cons_self hp), bndN_ok ih, List.filter_cons_of_pos hp]
      rfl
    | false => rw [if_neg Bool.false_ne_true, ih, List.filter_cons_of_neg (by simp [hp])]
/-- [e for x in xs if t] -/
theorem ev_comp {s : I} {G : G} {e : E} {vs : List Nat} {xs : List α} {sg : α → Env} {p : α → Bool} {q : α → D} (h : s σ st = some (.ok (.fix (xs.map f)) s1)) (h1 : ∀ x ∈ xs, G (f x) (wipe σ vs) = some (sg x)) (h2 : ∀ x ∈ xs, t (sg x) s1 = some (.ok (p x) s1))
    (h3 : ∀ x ∈ xs, p x = true → e (sg x) s1 = some (.ok (q x) s1)) (hl : xs.length ≤ 1000000) : lComp s G t e vs σ st = some (.ok ((xs.filter p).map q) s1) := by
  unfold lComp
  rw [bnd_ok h]
  dsimp only
  rw [bnd_ok (comp_go sg p q xs h1 h2 h3), if_pos]
  · rfl
  · refine okLen_of _ ?_
    rw [List.length_map]
    exact Nat.le_trans (List.length_filter_le p xs) hl
/-- [e for x in xs] -/
theorem ev_comp_all {s : I} {G : G} {e : E} {vs : List Nat} {xs : List α} {sg : α → Env} {q : α → D} (h : s σ st = some (.ok (.fix (xs.map f)) s1)) (h1 : ∀ x ∈ xs, G (f x) (wipe σ vs) = some (sg x)) (h3 : ∀ x ∈ xs, e (sg x) s1 = some (.ok (q x) s1)) (hl : xs.length ≤ 1000000) :
    lComp s G tYes e vs σ st = some (.ok (xs.map q) s1) := by
  have := ev_comp (t := tYes) (p := fun _ => true) h h1 (fun _ _ => rfl) (fun x hx _ => h3 x hx) hl
  rwa [filter_yes] at this
/-- two generators -/
theorem comp2_go {G : G} {t : T} {inn : Env → M (List D)} {σ : Env} {st : Store} {f : α → D} (s : α → Env) (p : α → Bool) (q : α → List D) : ∀ (xs : List α), (∀ x ∈ xs, G (f x) σ = some (s x)) → (∀ x ∈ xs, t (s x) st = some (.ok (p x) st)) → (∀ x ∈ xs, p x = true → inn (s x) st = some (.ok (q x) st)) →
    comp2 G t inn σ (xs.map f) st = some (.ok ((xs.filter p).flatMap q) st)
  | [], _, _, _ => rfl
  | x :: xs, h1, h2, h3 => by
    have ih := comp2_go s p q xs (fun y hy => h1 y (List.mem_cons_of_mem _ hy)) (fun y hy => h2 y (List.mem_cons_of_mem _ hy)) (fun y hy => h3 y (List.mem_cons_of_mem _ hy))
    rw [List.map_cons]
    unfold comp2
    rw [h1 x List.mem_cons_self]
    dsimp only
    rw [bndN_ok (h2 x List.mem_cons_self)]
    cases hp : p x with
    | true =>
      rw [if_pos rfl, bndN_ok (h3 x List.mem_cons_self hp), bndN_ok ih, List.filter_cons_of_pos hp, List.flatMap_cons]
      rfl
    | false => rw [if_neg Bool.false_ne_true, ih, List.filter_cons_of_neg (by simp [hp])]
theorem ev_compIn {s : I} {G : G} {e : E} {vs : List Nat} {xs : List α} {sg : α → Env} {p : α → Bool} {q : α → D} (h : s σ st = some (.ok (.fix (xs.map f)) st)) (h1 : ∀ x ∈ xs, G (f x) (wipe σ vs) = some (sg x)) (h2 : ∀ x ∈ xs, t (sg x) st = some (.ok (p x) st))
    (h3 : ∀ x ∈ xs, p x = true → e (sg x) st = some (.ok (q x) st)) : compIn s G t e vs σ st = some (.ok ((xs.filter p).map q) st) := by
  unfold compIn
  rw [bndN_ok h]
  exact comp_go sg p q xs h1 h2 h3
theorem ev_compIn_all {s : I} {G : G} {e : E} {vs : List Nat} {xs : List α} {sg : α → Env} {q : α → D} (h : s σ st = some (.ok (.fix (xs.map f)) st)) (h1 : ∀ x ∈ xs, G (f x) (wipe σ vs) = some (sg x))
    (h3 : ∀ x ∈ xs, e (sg x) st = some (.ok (q x) st)) : compIn s G tYes e vs σ st = some (.ok (xs.map q) st) := by
  have := ev_compIn (t := tYes) (p := fun _ => true) h h1 (fun _ _ => rfl) (fun x hx _ => h3 x hx)
  rwa [filter_yes] at this
theorem ev_comp2 {s : I} {G : G} {s1' : I} {G1 : Mi.G} {t1 : T} {e : E} {vs vs1 : List Nat} {xs : List α} {sg : α → Env} {p : α → Bool} {q : α → List D} (h : s σ st = some (.ok (.fix (xs.map f)) s1)) (h1 : ∀ x ∈ xs, G (f x) (wipe σ vs) = some (sg x)) (h2 : ∀ x ∈ xs, t (sg x) s1 = some (.ok (p x) s1))
    (h3 : ∀ x ∈ xs, p x = true → compIn s1' G1 t1 e vs1 (sg x) s1 = some (.ok (q x) s1)) (hl : ((xs.filter p).flatMap q).length ≤ 1000000) : lComp2 s G t s1' G1 t1 e vs vs1 σ st = some (.ok ((xs.filter p).flatMap q) s1) := by
  unfold lComp2
  rw [bnd_ok h]
  dsimp only
  rw [bndN_ok (comp2_go sg p q xs h1 h2 h3), if_pos]
  · rfl
  · exact okLen_of _ hl
theorem ev_comp2_all {s : I} {G : G} {s1' : I} {G1 : Mi.G} {t1 : T} {e : E} {vs vs1 : List Nat} {xs : List α} {sg : α → Env} {q : α → List D} (h : s σ st = some (.ok (.fix (xs.map f)) s1)) (h1 : ∀ x ∈ xs, G (f x) (wipe σ vs) = some (sg x))
    (h3 : ∀ x ∈ xs, compIn s1' G1 t1 e vs1 (sg x) s1 = some (.ok (q x) s1)) (hl : (xs.flatMap q).length ≤ 1000000) : lComp2 s G tYes s1' G1 t1 e vs vs1 σ st = some (.ok (xs.flatMap q) s1) := by
  have := ev_comp2 (t := tYes) (p := fun _ => true) h h1 (fun _ _ => rfl) (fun x hx _ => h3 x hx) (by rwa [filter_yes])
  rwa [filter_yes] at this

/-! ### statements -/
theorem st_skip : sSkip σ st = some (.nx σ st) := rfl
theorem st_set (h : a σ st = some (.ok d s1)) (hn : n < σ.length) : sSet n a σ st = some (.nx (σ.set n (some d)) s1) := by
  unfold sSet; rw [sBnd_ok h, if_pos hn]
theorem st_asg {G : G} (h : a σ st = some (.ok d s1)) (hg : G d σ = some σ1) : sAsg G a σ st = some (.nx σ1 s1) := by
  unfold sAsg; rw [sBnd_ok h, hg]
theorem st_aug {f : Op} (h0 : σ[n]? = some (some x)) (h : a σ st = some (.ok y s1)) (hf : f x y = some d) : sAug n f a σ st = some (.nx (σ.set n (some d)) s1) := by
  unfold sAug
  have e : (bnd (eVar n σ) fun x => bnd (a σ) fun y => need (f x y)) st = some (.ok d s1) := by
    rw [bnd_ok (ev_var h0), bnd_ok h]; exact need_ok hf
  rw [sBnd_ok e]
theorem st_par (h : es σ st = some (.ok [x, y] s1)) : sPar n k es σ st = some (.nx ((σ.set n (some x)).set k (some y)) s1) := by
  unfold sPar; rw [sBnd_ok h]
theorem st_ret (h : a σ st = some (.ok d s1)) : sRet a σ st = some (.rt d s1) := by
  unfold sRet; rw [sBnd_ok h]
theorem st_if {r : Option RS} (h : t σ st = some (.ok B s1)) (h2 : (if B = true then p σ s1 else q σ s1) = r) : sIf t p q σ st = r := by
  unfold sIf; rw [sBnd_ok h]; rw [← h2]
theorem st_expr (h : a σ st = some (.ok d s1)) : sExpr a σ st = some (.nx σ s1) := by
  unfold sExpr; rw [sBnd_ok h]
theorem st_cont : sCont σ st = some (.ct σ st) := rfl
theorem st_break : sBreak σ st = some (.bk σ st) := rfl
theorem st_raise {x : Str} : sRaise x σ st = some (.ex ⟨x, none⟩ σ st) := rfl
theorem sq_nx {r : Option RS} (h : p σ st = some (.nx σ1 s1)) (h2 : q σ1 s1 = r) : sSeq p q σ st = r := by rw [seq_nx h]; exact h2
theorem sq_if {r : Option RS} {p' : S} (h : t σ st = some (.ok B s1)) (h2 : (if B = true then sSeq p p' σ s1 else sSeq q p' σ s1) = r) : sSeq (sIf t p q) p' σ st = r := by
  unfold sSeq sIf; rw [sBnd_ok h]; rw [← h2]; cases B <;> rfl
theorem sq_ret (h : a σ st = some (.ok d s1)) : sSeq (sRet a) q σ st = some (.rt d s1) := seq_rt (st_ret h)
theorem sq_cont : sSeq sCont q σ st = some (.ct σ st) := rfl
theorem sq_break : sSeq sBreak q σ st = some (.bk σ st) := rfl
theorem sq_raise {x : Str} : sSeq (sRaise x) q σ st = some (.ex ⟨x, none⟩ σ st) := rfl
theorem sq_skip {r : Option RS} (h : q σ st = r) : sSeq sSkip q σ st = r := h
theorem sq_seq {r : Option RS} {p' : S} (h : sSeq p (sSeq q p') σ st = r) : sSeq (sSeq p q) p' σ st = r := by
  rw [← h]; unfold sSeq; rcases p σ st with _ | (_ | _ | _ | _ | _) <;> rfl
/-- x[i] = e: of a list in the store -/
theorem st_put {l : Nat} (h : a σ st = some (.ok d s1)) (ho : o σ s1 = some (.ok (.loc l) s2)) (hi : i σ s2 = some (.ok (dN k) s3)) (hl : s3[l]? = some (.lst ds)) (hk : k < ds.length) {s4 : Store} (he : s3.set l (.lst (ds.set k d)) = s4) : sPut o i a σ st = some (.nx σ s4) := by
  subst he
  unfold sPut
  rw [sBnd_ok h]
  have e : (bnd (o σ) fun x => bnd (i σ) fun k => ret (x, k)) s1 = some (.ok (D.loc l, dN k) s3) := by
    rw [bnd_ok ho, bnd_ok hi]; rfl
  rw [sBnd_ok e]
  dsimp only
  rw [hl]
  dsimp only
  have e2 : L2.ixN ds.length (k : Int) = some k := by
    unfold L2.ixN
    rw [if_pos (by omega), if_pos (by omega)]
    rfl
  rw [e2]
theorem loc_ok {l : Nat} (ho : o σ st = some (.ok (.loc l) s1)) (h0 : s1[l]? = some (.lst ds)) : eLoc o σ st = some (.ok l s1) := by
  unfold eLoc; rw [bnd_ok ho]; refine look_ok ?_; dsimp only; rw [h0]
theorem st_app {l : Nat} {ds0 : List D} (ho : o σ st = some (.ok (.loc l) s1)) (h0 : s1[l]? = some (.lst ds0)) (ha : a σ s1 = some (.ok d s2)) (hg : s2[l]? = some (.lst ds)) (hok : ds.length ≤ 1000000) {s4 : Store} (he : s2.set l (.lst (ds ++ [d])) = s4) : sApp o a σ st = some (.nx σ s4) := by
  subst he
  have e2 : (bnd (eLoc o σ) fun l => bnd (a σ) fun d => ret (l, d)) st = some (.ok (l, d) s2) := by
    rw [bnd_ok (loc_ok ho h0), bnd_ok ha]
    rfl
  unfold sApp
  rw [sBnd_ok e2]
  dsimp only
  rw [hg]
  dsimp only
  rw [if_pos (okLt_of _ hok)]
theorem st_ext {l : Nat} {ds0 : List D} (ho : o σ st = some (.ok (.loc l) s1)) (h0 : s1[l]? = some (.lst ds0)) (ha : a σ s1 = some (.ok d s2)) (hl : lstOf s2 d = some xs) (hg : s2[l]? = some (.lst ds)) (hok : ds.length + xs.length ≤ 1000000) {s4 : Store} (he : s2.set l (.lst (ds ++ xs)) = s4) : sExt o a σ st = some (.nx σ s4) := by
  subst he
  have e2 : (bnd (eLoc o σ) fun l => bnd (a σ) fun d => bnd (look fun st => lstOf st d) fun xs => ret (l, xs)) st = some (.ok (l, xs) s2) := by
    rw [bnd_ok (loc_ok ho h0), bnd_ok ha, bnd_ok (show look (fun st => lstOf st d) s2 = some (.ok xs s2) from look_ok hl)]
    rfl
  unfold sExt
  rw [sBnd_ok e2]
  dsimp only
  rw [hg]
  dsimp only
  rw [if_pos (okLen_of _ hok)]
theorem st_for {s : I} {G : G} {r : Option RS} (h : s σ st = some (.ok (.fix ds) s1)) (h2 : forFix G p ds σ s1 = r) : sFor s G p σ st = r := by
  unfold sFor; rw [sBnd_ok h]; exact h2
theorem for_nil {G : G} : forFix G p [] σ st = some (.nx σ st) := rfl
theorem for_cons {G : G} {r : Option RS} (h : G d σ = some σ1) (h2 : p σ1 st = some (.nx σ2 s2)) (h3 : forFix G p ds σ2 s2 = r) : forFix G p (d :: ds) σ st = r := by
  show (match G d σ with
    | none => none
    | some σ1 => match p σ1 st with
      | some (.nx σ2 st2) => forFix G p ds σ2 st2
      | some (.ct σ2 st2) => forFix G p ds σ2 st2
      | some (.bk σ2 st2) => some (.nx σ2 st2)
      | r => r) = _
  rw [h]; dsimp only; rw [h2]; exact h3
/-- a loop by an invariant over what has been walked -/
theorem for_inv {G : G} {b : S} (f : α → D) (J : List α → Env → Store → Prop) (xs : List α) (h0 : J [] σ st) (hs : ∀ (pre : List α) (x : α) (post : List α) (σ : Env) (st : Store), pre ++ x :: post = xs → J pre σ st → ∃ σ1 σ2 st2, G (f x) σ = some σ1 ∧ (b σ1 st = some (.nx σ2 st2) ∨ b σ1 st = some (.ct σ2 st2)) ∧ J (pre ++ [x]) σ2 st2) :
    ∃ σ' st', forFix G b (xs.map f) σ st = some (.nx σ' st') ∧ J xs σ' st' := by
  have go : ∀ (ys pre : List α) (σ : Env) (st : Store), pre ++ ys = xs → J pre σ st → ∃ σ' st', forFix G b (ys.map f) σ st = some (.nx σ' st') ∧ J xs σ' st' := by
    intro ys
    induction ys with
    | nil => intro pre σ st e h; rw [List.append_nil] at e; subst e; exact ⟨σ, st, rfl, h⟩
    | cons x ys ih =>
      intro pre σ st e h
      obtain ⟨σ1, σ2, st2, e1, e2, h2⟩ := hs pre x ys σ st e h
      obtain ⟨σ', st', e3, h3⟩ := ih (pre ++ [x]) σ2 st2 (by rw [List.append_assoc]; exact e) h2
      refine ⟨σ', st', ?_, h3⟩
      rw [List.map_cons]
      unfold forFix
      rw [e1]
      dsimp only
      rcases e2 with e2 | e2 <;> (rw [e2]; exact e3)
  exact go xs [] σ st rfl h0
theorem st_while {r : Option RS} (h : whN t p n σ st = r) : sWhile n t p σ st = r := h
theorem wh_go {r : Option RS} (h : t σ st = some (.ok B s1)) (hB : B = true) (h2 : p σ s1 = some (.nx σ1 s2)) (h3 : whN t p n σ1 s2 = r) : whN t p (n + 1) σ st = r := by
  subst hB
  show sBnd (t σ) σ (fun k st => if k then (match p σ st with
      | some (.nx σ2 st2) => whN t p n σ2 st2
      | some (.ct σ2 st2) => whN t p n σ2 st2
      | some (.bk σ2 st2) => some (.nx σ2 st2)
      | r => r) else some (.nx σ st)) st = _
  rw [sBnd_ok h, if_pos rfl, h2]; exact h3
theorem wh_end (h : t σ st = some (.ok B s1)) (hB : B = false) : whN t p (n + 1) σ st = some (.nx σ s1) := by
  subst hB
  unfold whN; rw [sBnd_ok h, if_neg Bool.false_ne_true]
/-- turns of a loop over a plain state -/
def iter {β : Type} (c : β → Bool) (f : β → β) : Nat → β → Option β
  | 0, _ => none
  | n + 1, s => if c s then iter c f n (f s) else some s
theorem wh_iter {p : S} (env : β → Env) (sto : β → Store) (c : β → Bool) (f : β → β) (Inv : β → Prop) (ht : ∀ s, Inv s → t (env s) (sto s) = some (.ok (c s) (sto s))) (hb : ∀ s, Inv s → c s = true → p (env s) (sto s) = some (.nx (env (f s)) (sto (f s))) ∧ Inv (f s)) :
    ∀ (n : Nat) (s r : β), Inv s → iter c f n s = some r → whN t p n (env s) (sto s) = some (.nx (env r) (sto r))
  | 0, _, _, _, h => by cases h
  | n + 1, s, r, hi, h => by
    unfold iter at h
    by_cases hc : c s = true
    · rw [if_pos hc] at h
      obtain ⟨h1, h2⟩ := hb s hi hc
      exact wh_go (ht s hi) hc h1 (wh_iter env sto c f Inv ht hb n (f s) r h2 h)
    · rw [if_neg hc] at h
      cases h
      exact wh_end (ht s hi) (by simpa using hc)

/-! ### functions -/
theorem run_rt {n : Nat} {b : S} {as : List D} {d : D} (h : b (start n as) st = some (.rt d s1)) : runB n b as st = some (.ok d s1) := by unfold runB; rw [h]
theorem run_nx {n : Nat} {b : S} {as : List D} (h : b (start n as) st = some (.nx σ s1)) : runB n b as st = some (.ok .non s1) := by unfold runB; rw [h]
theorem run_ex {n : Nat} {b : S} {as : List D} {x : Exn} (h : b (start n as) st = some (.ex x σ s1)) : runB n b as st = some (.ex x s1) := by unfold runB; rw [h]
theorem scp_ex {m : M D} {x : Exn} (h : m st = some (.ex x st)) (hx : x.arg = none) (g : Good st) : scp m st = some (.ex x st) := by
  unfold scp; rw [h]
  show (if argBelow st.length x && okSt st.length (st.take st.length) then some (R.ex x (st.take st.length)) else none) = _
  rw [List.take_length, g]
  unfold argBelow
  rw [hx]; rfl
mutual
theorem below_mono {n m : Nat} (h : n ≤ m) : ∀ {d : D}, below n d = true → below m d = true
  | .non, _ => rfl
  | .bl _, _ => rfl
  | .int _, _ => rfl
  | .str _, _ => rfl
  | .tup ds, e => belows_mono h (ds := ds) e
  | .lst ds, e => belows_mono h (ds := ds) e
  | .rol ds, e => belows_mono h (ds := ds) e
  | .dct _ kvs, e => belowk_mono h (kvs := kvs) e
  | .rng _ _, _ => rfl
  | .loc l, e => by
    have : l < n := of_decide_eq_true e
    exact decide_eq_true (by omega)
  | .fn _, _ => rfl
theorem belows_mono {n m : Nat} (h : n ≤ m) : ∀ {ds : List D}, belows n ds = true → belows m ds = true
  | [], _ => rfl
  | d :: ds, e => by
    have e : (below n d && belows n ds) = true := e
    rw [Bool.and_eq_true] at e
    show (below m d && belows m ds) = true
    rw [below_mono h e.1, belows_mono h e.2]; rfl
theorem belowk_mono {n m : Nat} (h : n ≤ m) : ∀ {kvs : List (D × D)}, belowk n kvs = true → belowk m kvs = true
  | [], _ => rfl
  | (k, d) :: ds, e => by
    have e : (below n k && (below n d && belowk n ds)) = true := e
    rw [Bool.and_eq_true, Bool.and_eq_true] at e
    show (below m k && (below m d && belowk m ds)) = true
    rw [below_mono h e.1, below_mono h e.2.1, belowk_mono h e.2.2]; rfl
end
theorem belowO_mono {n m : Nat} (h : n ≤ m) : ∀ {o : O}, belowO n o = true → belowO m o = true
  | .lst ds, e => belows_mono h (ds := ds) e
  | .dct _ kvs, e => belowk_mono h (kvs := kvs) e
  | .ins _ fs, e => belows_mono (n := n) (m := m) h (ds := fs.map (fun (x : Str × D) => x.2)) e
/-- a function that keeps the store: what comes of it first, then that it is what is said -/
theorem def_same {m : M D} {d d' : D} (h : m st = some (.ok d' st)) (e : d' = d) (hl : isLoc d = false) (hb : ∀ n, below n d = true) (g : Good st) : scp m st = some (.ok d st) := by
  subst e; exact scp_same h hl (hb _) g
theorem def_own {m : M D} {d d' : D} {ext : Store} (h : m st = some (.ok d' (st ++ ext))) (e : d' = d) (hl : isLoc d = false) (hb : ∀ n, below n d = true) (g : Good st) : scp m st = some (.ok d st) := by
  subst e; exact scp_own h hl (hb _) g
theorem def_new {m : M D} {d' : D} {s' ext : Store} {k : Nat} {ds : List D} (h : m st = some (.ok d' s')) (e : d' = .loc (st.length + k)) (e2 : s' = st ++ ext) (he : ext[k]? = some (.lst ds)) (hb : ∀ n, belows n ds = true) (g : Good st) : scp m st = some (.ok (.lst ds) st) := by
  subst e e2; exact scp_new h he (hb _) g
theorem Good.snoc {o : O} (g : Good st) (h : ∀ n, belowO n o = true) : Good (st ++ [o]) := by
  unfold Good okSt
  rw [List.all_append, Bool.and_eq_true]
  refine ⟨List.all_eq_true.mpr fun x hx => ?_, by simp [h]⟩
  have := List.all_eq_true.mp g x hx
  exact belowO_mono (by simp) this
end
end Mi
end
set_option Elab.async false
set_option linter.all false
set_option autoImplicit false
set_option maxRecDepth 100000
/-! what operations on encoded values give -/
noncomputable section
namespace Mi
open PySem
section
variable {α β γ : Type} {st : Store} {f : α → D} {g : β → D} {n m k : Nat} {i j : Int} {x y : D} {ds es : List D}
/-! numbers -/
theorem o_add_nn : oAdd (dN n) (dN m) = some (dN (n + m)) := rfl
theorem o_addI_nn : oAddI (dN n) (dN m) = some (dN (n + m)) := rfl
theorem o_add_ii : oAdd (.int i) (.int j) = some (.int (i + j)) := rfl
theorem o_addI_ii : oAddI (.int i) (.int j) = some (.int (i + j)) := rfl
theorem o_sub_nn (h : m ≤ n) : oSub (dN n) (dN m) = some (dN (n - m)) := by
  show some (D.int ((n : Int) - (m : Int))) = some (D.int ((n - m : Nat) : Int))
  congr 2; omega
theorem o_sub_ii : oSub (.int i) (.int j) = some (.int (i - j)) := rfl
theorem o_mul_nn (h : m ≤ 1000000) : oMul (dN n) (dN m) = some (dN (n * m)) := by
  show (if mulOk (n : Int) (m : Int) then some (D.int ((n : Int) * (m : Int))) else none) = _
  rw [if_pos]; · rfl
  rw [mulOk_eq, Bool.or_eq_true]
  refine .inr ?_
  rw [Bool.and_eq_true]; exact ⟨decide_eq_true (by omega), decide_eq_true (by omega)⟩
theorem o_mul_ii (h : -(2 ^ 64) < j) (h2 : j < 2 ^ 64) : oMul (.int i) (.int j) = some (.int (i * j)) := by
  show (if mulOk i j then some (D.int (i * j)) else none) = _
  rw [if_pos]
  rw [mulOk_eq, Bool.or_eq_true]
  exact .inr (by rw [Bool.and_eq_true]; exact ⟨decide_eq_true h, decide_eq_true h2⟩)
theorem o_mul_ii' (h : -(2 ^ 64) < i) (h2 : i < 2 ^ 64) : oMul (.int i) (.int j) = some (.int (i * j)) := by
  show (if mulOk i j then some (D.int (i * j)) else none) = _
  rw [if_pos]
  rw [mulOk_eq, Bool.or_eq_true]
  exact .inl (by rw [Bool.and_eq_true]; exact ⟨decide_eq_true h, decide_eq_true h2⟩)
theorem o_mod_nn (h : 0 < m) : oMod (dN n) (dN m) = some (dN (n % m)) := by
  show (if decide (0 < (m : Int)) then some (D.int ((n : Int) % (m : Int))) else none) = _
  rw [if_pos (decide_eq_true (by omega))]; rfl
theorem o_mod_ii (h : 0 < j) : oMod (.int i) (.int j) = some (.int (i % j)) := by
  show (if decide (0 < j) then some (D.int (i % j)) else none) = _
  rw [if_pos (decide_eq_true h)]
theorem o_div_nn (h : 0 < m) (h2 : m ≤ 1000000) : oDiv (dN n) (dN m) = some (dN (n / m)) := by
  show (if divOk (m : Int) then some (D.int ((n : Int) / (m : Int))) else none) = _
  rw [if_pos]; · rfl
  rw [divOk_eq, Bool.and_eq_true]; exact ⟨decide_eq_true (by omega), decide_eq_true (by omega)⟩
theorem o_div_ii (h : 0 < j) (h2 : j ≤ 1000000) : oDiv (.int i) (.int j) = some (.int (i / j)) := by
  show (if divOk j then some (D.int (i / j)) else none) = _
  rw [if_pos]
  rw [divOk_eq, Bool.and_eq_true]; exact ⟨decide_eq_true (by omega), decide_eq_true (by omega)⟩
theorem o_min_nn : oMin (dN n) (dN m) = some (dN (min n m)) := by
  show some (D.int (if (m : Int) < (n : Int) then (m : Int) else n)) = some (D.int ((min n m : Nat) : Int))
  congr 2
  by_cases h : m < n
  · rw [if_pos (by omega)]; omega
  · rw [if_neg (by omega)]; omega
theorem o_max_nn : oMax (dN n) (dN m) = some (dN (max n m)) := by
  show some (D.int (if (m : Int) > (n : Int) then (m : Int) else n)) = some (D.int ((max n m : Nat) : Int))
  congr 2
  by_cases h : m > n
  · rw [if_pos (by omega)]; omega
  · rw [if_neg (by omega)]; omega
/-! sequences put together -/
theorem o_add_tt {xs ys : List α} (h : xs.length + ys.length ≤ 1000000) : oAdd (.tup (xs.map f)) (.tup (ys.map f)) = some (.tup ((xs ++ ys).map f)) := by
  show (if okLen ((xs.map f).length + (ys.map f).length) then some (D.tup (xs.map f ++ ys.map f)) else none) = _
  rw [if_pos (okLen_of _ (by rw [List.length_map, List.length_map]; exact h)), List.map_append]
theorem o_add_t1 {xs : List α} {v : α} (h : xs.length + 1 ≤ 1000000) : oAdd (.tup (xs.map f)) (.tup [f v]) = some (.tup ((xs ++ [v]).map f)) := o_add_tt (ys := [v]) h
theorem o_add_1t {xs : List α} {v : α} (h : 1 + xs.length ≤ 1000000) : oAdd (.tup [f v]) (.tup (xs.map f)) = some (.tup ((v :: xs).map f)) := o_add_tt (xs := [v]) h
theorem o_add_t (h : ds.length + es.length ≤ 1000000) : oAdd (.tup ds) (.tup es) = some (.tup (ds ++ es)) := by
  show (if okLen (ds.length + es.length) then some (D.tup (ds ++ es)) else none) = _
  rw [if_pos (okLen_of _ h)]
/-! comparisons -/
theorem c_eq [DecidableEq α] [Enc f] [EncEq f] {a b : α} (h : Enc.dep f ≤ 64) : dEq st (f a) (f b) = some (decide (a = b)) := by
  unfold dEq
  have e1 : Mi.toPy st (f a) = some (Enc.py f a) := Enc.toPy _ _
  have e2 : Mi.toPy st (f b) = some (Enc.py f b) := Enc.toPy _ _
  rw [e1, e2]
  dsimp only
  rw [if_pos (Nat.le_trans (Nat.min_le_left _ _) (Nat.le_trans (Enc.dle a) h)), EncEq.eqv (f := f)]
theorem c_ne [DecidableEq α] [Enc f] [EncEq f] {a b : α} (h : Enc.dep f ≤ 64) : dNe st (f a) (f b) = some (!decide (a = b)) := by
  unfold dNe; rw [c_eq h]
theorem c_lt_nn : dLt st (dN n) (dN m) = some (decide (n < m)) := by
  show some (decide ((n : Int) < (m : Int))) = _
  congr 1; exact decide_eq_decide.mpr (by omega)
theorem c_le_nn : dLe st (dN n) (dN m) = some (decide (n ≤ m)) := by
  show some (decide ((n : Int) ≤ (m : Int))) = _
  congr 1; exact decide_eq_decide.mpr (by omega)
theorem c_gt_nn : dGt st (dN n) (dN m) = some (decide (m < n)) := by
  show some (decide ((m : Int) < (n : Int))) = _
  congr 1; exact decide_eq_decide.mpr (by omega)
theorem c_ge_nn : dGe st (dN n) (dN m) = some (decide (m ≤ n)) := by
  show some (decide ((m : Int) ≤ (n : Int))) = _
  congr 1; exact decide_eq_decide.mpr (by omega)
theorem c_lt_ii : dLt st (.int i) (.int j) = some (decide (i < j)) := rfl
theorem c_le_ii : dLe st (.int i) (.int j) = some (decide (i ≤ j)) := rfl
theorem c_gt_ii : dGt st (.int i) (.int j) = some (decide (j < i)) := rfl
theorem c_ge_ii : dGe st (.int i) (.int j) = some (decide (j ≤ i)) := rfl
theorem any_enc (f : α → D) [DecidableEq α] [Enc f] [EncEq f] (a : α) : ∀ xs : List α, ((xs.map (Enc.py f)).any fun y => PyData.eqv y (Enc.py f a)) = decide (a ∈ xs)
  | [] => rfl
  | x :: xs => by
    rw [List.map_cons, List.any_cons, any_enc f a xs, EncEq.eqv (f := f)]
    by_cases h : x = a
    · subst h; simp
    · have h' : ¬ a = x := fun z => h z.symm
      simp [h, h']
theorem c_in_seq [DecidableEq α] [Enc f] [EncEq f] {a : α} {xs : List α} {c : D} (hc : seqOf st c = some (xs.map f)) (h : Enc.dep f ≤ 64) : dIn st (f a) c = some (decide (a ∈ xs)) := by
  rw [dIn_seq hc]
  unfold dInS
  have e1 : Mi.toPy st (f a) = some (Enc.py f a) := Enc.toPy _ _
  have e2 : toPys st (xs.map f) = some (xs.map (Enc.py f)) := pys_map f _ xs
  rw [e1, hc]
  dsimp only
  rw [e2]
  dsimp only
  rw [if_pos (Nat.le_trans (Nat.min_le_right _ _) (Nat.le_trans (Enc.dle a) h)), any_enc]
theorem c_in_t [DecidableEq α] [Enc f] [EncEq f] {a : α} {xs : List α} (h : Enc.dep f ≤ 64) : dIn st (f a) (.tup (xs.map f)) = some (decide (a ∈ xs)) := c_in_seq rfl h
theorem c_in_l [DecidableEq α] [Enc f] [EncEq f] {a : α} {xs : List α} (h : Enc.dep f ≤ 64) : dIn st (f a) (.lst (xs.map f)) = some (decide (a ∈ xs)) := c_in_seq rfl h
theorem c_in_loc [DecidableEq α] [Enc f] [EncEq f] {a : α} {xs : List α} {l : Nat} (hl : st[l]? = some (.lst (xs.map f))) (h : Enc.dep f ≤ 64) : dIn st (f a) (.loc l) = some (decide (a ∈ xs)) := c_in_seq (by show (match st[l]? with | some (.lst ds) => some ds | _ => none) = _; rw [hl]) h
theorem c_notin {B : Bool} (h : dIn st x y = some B) : dNotIn st x y = some (!B) := by unfold dNotIn; rw [h]
theorem c_isN : dIsN' st x .non = some (isNon x) := rfl
theorem c_isNN : dIsNotN' st x .non = some (!isNon x) := rfl
/-! parts -/
theorem v_ix_t [Inhabited α] {xs : List α} (h : k < xs.length) : dIx st (.tup (xs.map f)) (dN k) = some (f (xs.getD k default)) := by
  show itemAt (xs.map f) (k : Int) = _
  unfold itemAt L2.atI L2.ixN
  rw [if_pos (by omega), if_pos (by rw [List.length_map]; omega)]
  show (xs.map f)[(k : Int).toNat]? = _
  rw [Int.toNat_natCast, List.getElem?_map, List.getElem?_eq_getElem h, List.getD_eq_getElem?_getD, List.getElem?_eq_getElem h]
  rfl
theorem v_ix_l [Inhabited α] {xs : List α} (h : k < xs.length) : dIx st (.lst (xs.map f)) (dN k) = some (f (xs.getD k default)) := v_ix_t (st := st) h
theorem v_ix_loc [Inhabited α] {xs : List α} {l : Nat} (hl : st[l]? = some (.lst (xs.map f))) (h : k < xs.length) : dIx st (.loc l) (dN k) = some (f (xs.getD k default)) := by
  have e : dctOf st (.loc l) = none := by show (match st[l]? with | some (.dct t kvs) => some (t, kvs) | _ => none) = _; rw [hl]
  unfold dIx
  rw [e]
  dsimp only
  have e2 : seqOf st (.loc l) = some (xs.map f) := by show (match st[l]? with | some (.lst ds) => some ds | _ => none) = _; rw [hl]
  rw [e2]
  exact v_ix_t (st := st) h
theorem v_ix_last [Inhabited α] {xs : List α} (h : xs ≠ []) : dIx st (.tup (xs.map f)) (.int (-((1 : Nat) : Int))) = some (f (xs.getLastD default)) := by
  show itemAt (xs.map f) (-1) = _
  have hl : 0 < xs.length := List.length_pos_iff.mpr h
  unfold itemAt L2.atI L2.ixN
  rw [if_neg (by decide), if_pos (by rw [List.length_map]; omega)]
  show (xs.map f)[((-1 : Int) + ((xs.map f).length : Int)).toNat]? = _
  have e : ((-1 : Int) + ((xs.map f).length : Int)).toNat = xs.length - 1 := by rw [List.length_map]; omega
  rw [e, List.getElem?_map, List.getElem?_eq_getElem (by omega)]
  rw [List.getLastD_eq_getLast?, List.getLast?_eq_getElem?, List.getElem?_eq_getElem (by omega)]
  rfl
theorem v_sl_from {xs : List α} (h : k ≤ xs.length ∨ True) : dSl st (.tup (xs.map f)) (some (k : Int)) none = some (.tup ((xs.drop k).map f)) := by
  show some (D.tup (cutD (xs.map f) (some (k : Int)) none)) = _
  congr 2
  unfold cutD
  have e1 : HT.sIx (xs.map f).length 0 (some (k : Int)) = min k xs.length := by
    simp [HT.sIx]; omega
  have e2 : HT.sIx (xs.map f).length (xs.map f).length none = xs.length := by simp [HT.sIx]
  rw [e1, e2]
  rw [← List.map_drop, ← List.map_take]
  congr 1
  by_cases hk : k ≤ xs.length
  · rw [Nat.min_eq_left hk]
    exact List.take_of_length_le (by rw [List.length_drop]; omega)
  · rw [Nat.min_eq_right (by omega), List.drop_length, List.drop_eq_nil_of_le (by omega)]
    simp
theorem v_sl_to {xs : List α} : dSl st (.tup (xs.map f)) none (some (k : Int)) = some (.tup ((xs.take k).map f)) := by
  show some (D.tup (cutD (xs.map f) none (some (k : Int)))) = _
  congr 2
  unfold cutD
  have e1 : HT.sIx (xs.map f).length 0 none = 0 := by simp [HT.sIx]
  have e2 : HT.sIx (xs.map f).length (xs.map f).length (some (k : Int)) = min k xs.length := by simp [HT.sIx]; omega
  rw [e1, e2, List.drop_zero, Nat.sub_zero, ← List.map_take]
  congr 1
  rw [List.take_eq_take_iff]
  omega
theorem ix_loc {l : Nat} (hl : st[l]? = some (.lst ds)) (h : dIx st (.lst ds) y = some x) : dIx st (.loc l) y = some x := by
  have e : dctOf st (.loc l) = none := by show (match st[l]? with | some (.dct t kvs) => some (t, kvs) | _ => none) = _; rw [hl]
  have e2 : seqOf st (.loc l) = some ds := by show (match st[l]? with | some (.lst ds) => some ds | _ => none) = _; rw [hl]
  rw [← h]
  unfold dIx
  rw [e, e2]; rfl
theorem in_loc {l : Nat} {B : Bool} (hl : st[l]? = some (.lst ds)) (h : dIn st x (.lst ds) = some B) : dIn st x (.loc l) = some B := by
  have e : dctOf st (.loc l) = none := by show (match st[l]? with | some (.dct t kvs) => some (t, kvs) | _ => none) = _; rw [hl]
  have e2 : seqOf st (.loc l) = some ds := by show (match st[l]? with | some (.lst ds) => some ds | _ => none) = _; rw [hl]
  rw [← h]
  unfold dIn dInS
  rw [e, e2]; rfl
theorem len_loc {l : Nat} (hl : st[l]? = some (.lst ds)) (h : gLen st (.lst ds) = some x) : gLen st (.loc l) = some x := by
  have e : dctOf st (.loc l) = none := by show (match st[l]? with | some (.dct t kvs) => some (t, kvs) | _ => none) = _; rw [hl]
  have e2 : seqOf st (.loc l) = some ds := by show (match st[l]? with | some (.lst ds) => some ds | _ => none) = _; rw [hl]
  rw [← h]
  unfold gLen dLen
  dsimp only
  rw [e, e2]; rfl
theorem sl_loc {l : Nat} {lo hi : Option Int} (hl : st[l]? = some (.lst ds)) (h : dSl st (.lst ds) lo hi = some x) : dSl st (.loc l) lo hi = some x := by
  rw [← h]
  unfold dSl
  dsimp only
  rw [hl]
theorem v_sl_from_l {xs : List α} : dSl st (.lst (xs.map f)) (some (k : Int)) none = some (.lst ((xs.drop k).map f)) := by
  have h := v_sl_from (st := st) (f := f) (k := k) (xs := xs) (.inr trivial)
  have h' : some (D.tup (cutD (xs.map f) (some (k : Int)) none)) = some (.tup ((xs.drop k).map f)) := h
  show some (D.lst (cutD (xs.map f) (some (k : Int)) none)) = _
  rw [D.tup.inj (Option.some.inj h')]
theorem v_sl_to_l {xs : List α} : dSl st (.lst (xs.map f)) none (some (k : Int)) = some (.lst ((xs.take k).map f)) := by
  have h := v_sl_to (st := st) (f := f) (k := k) (xs := xs)
  have h' : some (D.tup (cutD (xs.map f) none (some (k : Int)))) = some (.tup ((xs.take k).map f)) := h
  show some (D.lst (cutD (xs.map f) none (some (k : Int)))) = _
  rw [D.tup.inj (Option.some.inj h')]
theorem v_sl_to_r {xs : List α} : dSl st (.rol (xs.map f)) none (some (k : Int)) = some (.lst ((xs.take k).map f)) := v_sl_to_l (st := st)
/-! built-ins -/
theorem v_len_t {xs : List α} : gLen st (.tup (xs.map f)) = some (dN xs.length) := by
  show some (D.int ((xs.map f).length : Int)) = _
  rw [List.length_map]
theorem v_len_l {xs : List α} : gLen st (.lst (xs.map f)) = some (dN xs.length) := by
  show some (D.int ((xs.map f).length : Int)) = _
  rw [List.length_map]
theorem v_len_loc {xs : List α} {l : Nat} (hl : st[l]? = some (.lst (xs.map f))) : gLen st (.loc l) = some (dN xs.length) := by
  unfold gLen dLen
  have e : dctOf st (.loc l) = none := by show (match st[l]? with | some (.dct t kvs) => some (t, kvs) | _ => none) = _; rw [hl]
  have e2 : seqOf st (.loc l) = some (xs.map f) := by show (match st[l]? with | some (.lst ds) => some ds | _ => none) = _; rw [hl]
  dsimp only
  rw [e, e2]
  dsimp only
  rw [List.length_map]
theorem v_len_t0 : gLen st (.tup ds) = some (dN ds.length) := rfl
theorem v_len_l0 : gLen st (.lst ds) = some (dN ds.length) := rfl
theorem v_tup_t : gTup st (.tup ds) = some (.tup ds) := rfl
theorem v_tup_l : gTup st (.lst ds) = some (.tup ds) := rfl
theorem v_tup_loc {l : Nat} (hl : st[l]? = some (.lst ds)) : gTup st (.loc l) = some (.tup ds) := by
  show (match lstOf st (.loc l) with | some ds => some (D.tup ds) | none => none) = _
  have e2 : lstOf st (.loc l) = some ds := by show (match st[l]? with | some (.lst ds) => some ds | _ => none) = _; rw [hl]
  rw [e2]
theorem v_all {p : α → Bool} {xs : List α} : gAll st (.lst (xs.map fun x => D.bl (p x))) = some (.bl (xs.all p)) := by
  show (match blsOf (xs.map fun x => D.bl (p x)) with | some bs => some (D.bl (bs.all id)) | none => none) = _
  rw [blsOf_map p xs]
  simp [List.all_map, Function.comp_def]
theorem v_any {p : α → Bool} {xs : List α} : gAny st (.lst (xs.map fun x => D.bl (p x))) = some (.bl (xs.any p)) := by
  show (match blsOf (xs.map fun x => D.bl (p x)) with | some bs => some (D.bl (bs.any id)) | none => none) = _
  rw [blsOf_map p xs]
  simp [List.any_map, Function.comp_def]
theorem v_int_i : gU uInt st (.int i) = some (.int i) := rfl
theorem v_int_b {b : Bool} : gU uInt st (.bl b) = some (dN (if b then 1 else 0)) := by cases b <;> rfl
theorem v_abs_n : gU uAbs st (dN n) = some (dN n) := by
  show some (D.int (if (n : Int) < 0 then -(n : Int) else n)) = _
  rw [if_neg (by omega)]
theorem v_abs_i : gU uAbs st (.int i) = some (dN i.natAbs) := by
  show some (D.int (if i < 0 then -i else i)) = some (D.int (i.natAbs : Int))
  congr 2
  by_cases h : i < 0
  · rw [if_pos h]; omega
  · rw [if_neg h]; omega
theorem intsOf_nat : ∀ xs : List Nat, intsOf (xs.map dN) = some (xs.map fun (n : Nat) => (n : Int))
  | [] => rfl
  | x :: xs => by
    show (match intsOf (xs.map dN) with | some xs => some ((x : Int) :: xs) | none => none) = _
    rw [intsOf_nat xs]; rfl
theorem sum_nat : ∀ xs : List Nat, (xs.map fun (n : Nat) => (n : Int)).sum = ((xs.sum : Nat) : Int)
  | [] => rfl
  | x :: xs => by rw [List.map_cons, List.sum_cons, List.sum_cons, sum_nat xs]; rfl
theorem v_sum {xs : List Nat} : gSum st (.lst (xs.map dN)) = some (dN xs.sum) := by
  show (match intsOf (xs.map dN) with | some ns => some (D.int ns.sum) | none => none) = _
  rw [intsOf_nat]
  dsimp only
  rw [sum_nat]
theorem lst_loc {l : Nat} (hl : st[l]? = some (.lst ds)) : lstOf st (.loc l) = some ds := by
  show (match st[l]? with | some (.lst ds) => some ds | _ => none) = _
  rw [hl]
theorem seq_loc {l : Nat} (hl : st[l]? = some (.lst ds)) : seqOf st (.loc l) = some ds := by
  show (match st[l]? with | some (.lst ds) => some ds | _ => none) = _
  rw [hl]
/-! types -/
theorem isi_int_non : dIsi "int" st .non = some false := by rfl
theorem isi_int_bl {b : Bool} : dIsi "int" st (.bl b) = some true := by rfl
theorem isi_int_int : dIsi "int" st (.int i) = some true := by rfl
theorem isi_int_str {w : Str} : dIsi "int" st (.str w) = some false := by rfl
theorem isi_int_tup : dIsi "int" st (.tup ds) = some false := by rfl
theorem isi_int_lst : dIsi "int" st (.lst ds) = some false := by rfl
theorem isi_int_rol : dIsi "int" st (.rol ds) = some false := by rfl
theorem isi_int_dct {b : Bool} {kvs : List (D × D)} : dIsi "int" st (.dct b kvs) = some false := by rfl
theorem isi_int_loc {l : Nat} (h : st[l]? = some (.lst ds)) : dIsi "int" st (.loc l) = some false := by
  unfold dIsi tyOf; dsimp only; rw [h]; rfl
theorem isi_int_locd {l : Nat} {b : Bool} {kvs : List (D × D)} (h : st[l]? = some (.dct b kvs)) : dIsi "int" st (.loc l) = some false := by
  unfold dIsi tyOf; dsimp only; rw [h]; rfl
theorem isi_bool_non : dIsi "bool" st .non = some false := by rfl
theorem isi_bool_bl {b : Bool} : dIsi "bool" st (.bl b) = some true := by rfl
theorem isi_bool_int : dIsi "bool" st (.int i) = some false := by rfl
theorem isi_bool_str {w : Str} : dIsi "bool" st (.str w) = some false := by rfl
theorem isi_bool_tup : dIsi "bool" st (.tup ds) = some false := by rfl
theorem isi_bool_lst : dIsi "bool" st (.lst ds) = some false := by rfl
theorem isi_bool_rol : dIsi "bool" st (.rol ds) = some false := by rfl
theorem isi_bool_dct {b : Bool} {kvs : List (D × D)} : dIsi "bool" st (.dct b kvs) = some false := by rfl
theorem isi_bool_loc {l : Nat} (h : st[l]? = some (.lst ds)) : dIsi "bool" st (.loc l) = some false := by
  unfold dIsi tyOf; dsimp only; rw [h]; rfl
theorem isi_bool_locd {l : Nat} {b : Bool} {kvs : List (D × D)} (h : st[l]? = some (.dct b kvs)) : dIsi "bool" st (.loc l) = some false := by
  unfold dIsi tyOf; dsimp only; rw [h]; rfl
theorem isi_str_non : dIsi "str" st .non = some false := by rfl
theorem isi_str_bl {b : Bool} : dIsi "str" st (.bl b) = some false := by rfl
theorem isi_str_int : dIsi "str" st (.int i) = some false := by rfl
theorem isi_str_str {w : Str} : dIsi "str" st (.str w) = some true := by rfl
theorem isi_str_tup : dIsi "str" st (.tup ds) = some false := by rfl
theorem isi_str_lst : dIsi "str" st (.lst ds) = some false := by rfl
theorem isi_str_rol : dIsi "str" st (.rol ds) = some false := by rfl
theorem isi_str_dct {b : Bool} {kvs : List (D × D)} : dIsi "str" st (.dct b kvs) = some false := by rfl
theorem isi_str_loc {l : Nat} (h : st[l]? = some (.lst ds)) : dIsi "str" st (.loc l) = some false := by
  unfold dIsi tyOf; dsimp only; rw [h]; rfl
theorem isi_str_locd {l : Nat} {b : Bool} {kvs : List (D × D)} (h : st[l]? = some (.dct b kvs)) : dIsi "str" st (.loc l) = some false := by
  unfold dIsi tyOf; dsimp only; rw [h]; rfl
theorem isi_tuple_non : dIsi "tuple" st .non = some false := by rfl
theorem isi_tuple_bl {b : Bool} : dIsi "tuple" st (.bl b) = some false := by rfl
theorem isi_tuple_int : dIsi "tuple" st (.int i) = some false := by rfl
theorem isi_tuple_str {w : Str} : dIsi "tuple" st (.str w) = some false := by rfl
theorem isi_tuple_tup : dIsi "tuple" st (.tup ds) = some true := by rfl
theorem isi_tuple_lst : dIsi "tuple" st (.lst ds) = some false := by rfl
theorem isi_tuple_rol : dIsi "tuple" st (.rol ds) = some false := by rfl
theorem isi_tuple_dct {b : Bool} {kvs : List (D × D)} : dIsi "tuple" st (.dct b kvs) = some false := by rfl
theorem isi_tuple_loc {l : Nat} (h : st[l]? = some (.lst ds)) : dIsi "tuple" st (.loc l) = some false := by
  unfold dIsi tyOf; dsimp only; rw [h]; rfl
theorem isi_tuple_locd {l : Nat} {b : Bool} {kvs : List (D × D)} (h : st[l]? = some (.dct b kvs)) : dIsi "tuple" st (.loc l) = some false := by
  unfold dIsi tyOf; dsimp only; rw [h]; rfl
theorem isi_list_non : dIsi "list" st .non = some false := by rfl
theorem isi_list_bl {b : Bool} : dIsi "list" st (.bl b) = some false := by rfl
theorem isi_list_int : dIsi "list" st (.int i) = some false := by rfl
theorem isi_list_str {w : Str} : dIsi "list" st (.str w) = some false := by rfl
theorem isi_list_tup : dIsi "list" st (.tup ds) = some false := by rfl
theorem isi_list_lst : dIsi "list" st (.lst ds) = some true := by rfl
theorem isi_list_rol : dIsi "list" st (.rol ds) = some true := by rfl
theorem isi_list_dct {b : Bool} {kvs : List (D × D)} : dIsi "list" st (.dct b kvs) = some false := by rfl
theorem isi_list_loc {l : Nat} (h : st[l]? = some (.lst ds)) : dIsi "list" st (.loc l) = some true := by
  unfold dIsi tyOf; dsimp only; rw [h]; rfl
theorem isi_list_locd {l : Nat} {b : Bool} {kvs : List (D × D)} (h : st[l]? = some (.dct b kvs)) : dIsi "list" st (.loc l) = some false := by
  unfold dIsi tyOf; dsimp only; rw [h]; rfl
theorem isi_dict_non : dIsi "dict" st .non = some false := by rfl
theorem isi_dict_bl {b : Bool} : dIsi "dict" st (.bl b) = some false := by rfl
theorem isi_dict_int : dIsi "dict" st (.int i) = some false := by rfl
theorem isi_dict_str {w : Str} : dIsi "dict" st (.str w) = some false := by rfl
theorem isi_dict_tup : dIsi "dict" st (.tup ds) = some false := by rfl
theorem isi_dict_lst : dIsi "dict" st (.lst ds) = some false := by rfl
theorem isi_dict_rol : dIsi "dict" st (.rol ds) = some false := by rfl
theorem isi_dict_dct {b : Bool} {kvs : List (D × D)} : dIsi "dict" st (.dct b kvs) = some true := by rfl
theorem isi_dict_loc {l : Nat} (h : st[l]? = some (.lst ds)) : dIsi "dict" st (.loc l) = some false := by
  unfold dIsi tyOf; dsimp only; rw [h]; rfl
theorem isi_dict_locd {l : Nat} {b : Bool} {kvs : List (D × D)} (h : st[l]? = some (.dct b kvs)) : dIsi "dict" st (.loc l) = some true := by
  unfold dIsi tyOf; dsimp only; rw [h]; rfl
theorem isi2_of {c c' : String} {a b : Bool} (h : dIsi c st x = some a) (h2 : dIsi c' st x = some b) : dIsi2 c c' st x = some (a || b) := by
  unfold dIsi at h h2
  unfold dIsi2
  cases e : tyOf st x with
  | none => rw [e] at h; cases h
  | some t => rw [e] at h h2; cases h; cases h2; rfl
/-! sorted numbers -/
def sortN (xs : List Nat) : List Nat := xs.mergeSort fun a b => decide (a ≤ b)
end
end Mi
end
set_option Elab.async false
set_option linter.all false
set_option autoImplicit false
set_option maxRecDepth 100000
/-! Mi: the hand that draws, a list that lies first in the store. -/
noncomputable section
namespace Mi
open PySem
structure Hand where
  cells : List Nat
  pos : Nat
  dig : Nat
  seed : Nat
  n : Nat
def hO (h : Hand) : O := .lst [.lst (h.cells.map dN), dN h.pos, dN h.dig, dN h.seed, dN h.n]
def Hand.feed (h : Hand) : Hand := if h.dig = 0 ∧ h.pos < h.cells.length then ⟨h.cells, h.pos + 1, if 1000000000000000000 ≤ h.cells.getD h.pos default then h.cells.getD h.pos default else h.dig, (h.seed * 69621 + h.cells.getD h.pos default + 11) % 2147483629, h.n⟩ else h
def mix (a n : Nat) : Nat :=
  let x := (a + 7919 * n) * 48271 % 2147483647
  let y := x * (x / 1009 + 69621) % 2147483647
  let z := y * (y / 2003 + 40692) % 2147483399
  z / 16
def drw (h : Hand) (m : Nat) : Nat × Hand :=
  let g := h.feed
  if 0 < g.dig then (g.dig % m, ⟨g.cells, g.pos, g.dig / m, g.seed, g.n⟩)
  else (mix g.seed (g.n + 1) % m, ⟨g.cells, g.pos, g.dig, g.seed, g.n + 1⟩)
theorem drw_lt (h : Hand) {m : Nat} (hm : 0 < m) : (drw h m).1 < m := by
  unfold drw
  dsimp only
  split
  · exact Nat.mod_lt _ hm
  · exact Nat.mod_lt _ hm
section
variable {st ext : Store} {h : Hand} {o u : O} {k : Nat}
theorem at_h : (hO h :: st)[0]? = some (.lst [.lst (h.cells.map dN), dN h.pos, dN h.dig, dN h.seed, dN h.n]) := rfl
theorem at_cext (e : ext[k]? = some o) : (u :: (st ++ ext))[st.length + 1 + k]? = some o := by
  have e1 : st.length + 1 + k = (st.length + k) + 1 := by omega
  rw [e1, List.getElem?_cons_succ, List.getElem?_append_right (by omega)]
  simpa using e
theorem at_cext0 (e : ext[0]? = some o) : (u :: (st ++ ext))[st.length + 1]? = some o := at_cext (k := 0) e
theorem set_cext : (u :: (st ++ ext)).set (st.length + 1 + k) o = u :: (st ++ ext.set k o) := by
  have e1 : st.length + 1 + k = (st.length + k) + 1 := by omega
  rw [e1, List.set_cons_succ, List.set_append_right _ _ (by omega)]
  simp
theorem set_cext0 : (u :: (st ++ ext)).set (st.length + 1) o = u :: (st ++ ext.set 0 o) := set_cext (k := 0)
theorem push_cext : Push (u :: (st ++ ext)) o (st.length + 1 + ext.length) (u :: (st ++ (ext ++ [o]))) := ⟨by simp; omega, by simp⟩
theorem push_cbase : Push (u :: st) o (st.length + 1) (u :: (st ++ [o])) := ⟨by simp, by simp⟩
theorem hand_low (h : Hand) (n : Nat) : belowO n (hO h) = true := by
  show belows n [.lst (h.cells.map dN), dN h.pos, dN h.dig, dN h.seed, dN h.n] = true
  have e : below n (.lst (h.cells.map dN)) = true := belows_enc dN n h.cells
  show (below n (.lst (h.cells.map dN)) && (true && (true && (true && (true && true))))) = true
  rw [e]; rfl
theorem Good.hand (g : Good st) : Good (hO h :: st) := by
  unfold Good okSt
  rw [List.all_cons, Bool.and_eq_true]
  refine ⟨hand_low h _, List.all_eq_true.mpr fun x hx => ?_⟩
  have := List.all_eq_true.mp g x hx
  exact belowO_mono (by simp) this
/-- a function that draws -/
theorem def_hand {m : M D} {d d' : D} {h' : Hand} {s' : Store} (hm : m (hO h :: st) = some (.ok d' s')) (e : d' = d) (e2 : s' = hO h' :: st) (hl : isLoc d = false) (hb : ∀ n, below n d = true) (g : Good st) : scp m (hO h :: st) = some (.ok d (hO h' :: st)) := by
  subst e e2
  exact scp_keep hm hl (by simp) (hb _) g.hand
/-- a function that draws, with lists of its own -/
theorem def_handO {m : M D} {d d' : D} {h' : Hand} {s' ext : Store} (hm : m (hO h :: st) = some (.ok d' s')) (e : d' = d) (e2 : s' = hO h' :: (st ++ ext)) (hl : isLoc d = false) (hb : ∀ n, below n d = true) (g : Good st) : scp m (hO h :: st) = some (.ok d (hO h' :: st)) := by
  subst e e2
  unfold scp
  rw [hm]
  have e1 : ((hO h' :: (st ++ ext)).take (hO h :: st).length) = hO h' :: st := by simp
  have e2 : thaw (hO h :: st).length (hO h' :: (st ++ ext)) d' = d' := by cases d' <;> first | rfl | cases hl
  dsimp only
  rw [e1, e2, hb]
  have e3 : okSt (hO h :: st).length (hO h' :: st) = true := (g.hand (h := h'))
  rw [e3]; rfl
/-- a function that draws, and answers a list of its own -/
theorem def_handN {m : M D} {d' : D} {h' : Hand} {s' ext : Store} {k : Nat} {ds : List D} (hm : m (hO h :: st) = some (.ok d' s')) (e : d' = .loc (st.length + 1 + k)) (e2 : s' = hO h' :: (st ++ ext)) (he : ext[k]? = some (.lst ds)) (hb : ∀ n, belows n ds = true) (g : Good st) : scp m (hO h :: st) = some (.ok (.lst ds) (hO h' :: st)) := by
  subst e e2
  unfold scp
  rw [hm]
  have e1 : ((hO h' :: (st ++ ext)).take (hO h :: st).length) = hO h' :: st := by simp
  have e2 : thaw (hO h :: st).length (hO h' :: (st ++ ext)) (.loc (st.length + 1 + k)) = .lst ds := by
    unfold thaw
    have e3 : ¬ st.length + 1 + k < (hO h :: st).length := by simp
    simp only [at_cext he]
    simp
    try omega
  dsimp only
  rw [e1, e2]
  have e4 : below (hO h :: st).length (.lst ds) = true := hb _
  have e3 : okSt (hO h :: st).length (hO h' :: st) = true := (g.hand (h := h'))
  rw [e3, e4]; rfl
end
/-! ### comprehensions that draw -/
section
variable {α β : Type} {f : α → D} {σ : Env} {s1 : Store}
def sift (p : β → α → Bool × β) : β → List α → List α × β
  | b, [] => ([], b)
  | b, x :: xs => (if (p b x).1 then x :: (sift p (p b x).2 xs).1 else (sift p (p b x).2 xs).1, (sift p (p b x).2 xs).2)
theorem sift_sub (p : β → α → Bool × β) : ∀ (b : β) (xs : List α), (sift p b xs).1.Sublist xs
  | _, [] => .slnil
  | b, x :: xs => by
    unfold sift
    dsimp only
    split
    · exact (sift_sub p _ xs).cons₂ x
    · exact (sift_sub p _ xs).cons x
def mapS {γ : Type} (p : β → α → γ × β) : β → List α → List γ × β
  | b, [] => ([], b)
  | b, x :: xs => ((p b x).1 :: (mapS p (p b x).2 xs).1, (mapS p (p b x).2 xs).2)
theorem sift_go {G : G} {t : T} {e : E} (sto : β → Store) (s : α → Env) (p : β → α → Bool × β) (q : α → D) : ∀ (xs : List α) (b : β), (∀ x ∈ xs, G (f x) σ = some (s x)) → (∀ x ∈ xs, ∀ b, t (s x) (sto b) = some (.ok (p b x).1 (sto (p b x).2))) → (∀ x ∈ xs, ∀ b, e (s x) (sto b) = some (.ok (q x) (sto b))) →
    compFix G t e σ (xs.map f) (sto b) = some (.ok ((sift p b xs).1.map q) (sto (sift p b xs).2))
  | [], b, _, _, _ => rfl
  | x :: xs, b, h1, h2, h3 => by
    have ih := sift_go sto s p q xs (p b x).2 (fun y hy => h1 y (.tail _ hy)) (fun y hy => h2 y (.tail _ hy)) (fun y hy => h3 y (.tail _ hy))
    rw [List.map_cons]
    unfold compFix
    rw [h1 x (.head _)]
    dsimp only
    rw [bndN_ok (h2 x (.head _) b)]
    unfold sift
    dsimp only
    cases hp : (p b x).1 with
    | false => rw [if_neg Bool.false_ne_true, if_neg Bool.false_ne_true]; exact ih
    | true =>
      rw [if_pos rfl, if_pos rfl, bndN_ok (h3 x (.head _) _), bndN_ok ih]
      rfl
/-- [e for x in xs if t] where t draws -/
theorem ev_sift {s : I} {G : G} {t : T} {e : E} {vs : List Nat} {xs : List α} {st : Store} (sto : β → Store) (b : β) {sg : α → Env} {p : β → α → Bool × β} {q : α → D} (h : s σ st = some (.ok (.fix (xs.map f)) (sto b))) (h1 : ∀ x ∈ xs, G (f x) (wipe σ vs) = some (sg x)) (h2 : ∀ x ∈ xs, ∀ b, t (sg x) (sto b) = some (.ok (p b x).1 (sto (p b x).2)))
    (h3 : ∀ x ∈ xs, ∀ b, e (sg x) (sto b) = some (.ok (q x) (sto b))) (hl : xs.length ≤ 1000000) : lComp s G t e vs σ st = some (.ok ((sift p b xs).1.map q) (sto (sift p b xs).2)) := by
  unfold lComp
  rw [bnd_ok h]
  dsimp only
  rw [bnd_ok (sift_go sto sg p q xs b h1 h2 h3), if_pos]
  · rfl
  · refine okLen_of _ ?_
    rw [List.length_map]
    exact Nat.le_trans (sift_sub p b xs).length_le hl
theorem mapS_len {γ : Type} (p : β → α → γ × β) : ∀ (b : β) (xs : List α), (mapS p b xs).1.length = xs.length
  | _, [] => rfl
  | b, x :: xs => by unfold mapS; rw [List.length_cons, List.length_cons, mapS_len p _ xs]
theorem mapS_go {γ : Type} {G : G} {e : E} (sto : β → Store) (s : α → Env) (p : β → α → γ × β) (q : γ → D) : ∀ (xs : List α) (b : β), (∀ x ∈ xs, G (f x) σ = some (s x)) → (∀ x ∈ xs, ∀ b, e (s x) (sto b) = some (.ok (q (p b x).1) (sto (p b x).2))) →
    compFix G tYes e σ (xs.map f) (sto b) = some (.ok ((mapS p b xs).1.map q) (sto (mapS p b xs).2))
  | [], b, _, _ => rfl
  | x :: xs, b, h1, h3 => by
    have ih := mapS_go sto s p q xs (p b x).2 (fun y hy => h1 y (.tail _ hy)) (fun y hy => h3 y (.tail _ hy))
    rw [List.map_cons]
    unfold compFix
    rw [h1 x (.head _)]
    dsimp only
    rw [bndN_ok (show tYes (s x) (sto b) = some (.ok true (sto b)) from rfl), if_pos rfl, bndN_ok (h3 x (.head _) _), bndN_ok ih]
    rfl
/-- [e for x in xs] where e draws -/
theorem ev_mapS {γ : Type} {s : I} {G : G} {e : E} {vs : List Nat} {xs : List α} {st : Store} (sto : β → Store) (b : β) {sg : α → Env} {p : β → α → γ × β} {q : γ → D} (h : s σ st = some (.ok (.fix (xs.map f)) (sto b))) (h1 : ∀ x ∈ xs, G (f x) (wipe σ vs) = some (sg x))
    (h3 : ∀ x ∈ xs, ∀ b, e (sg x) (sto b) = some (.ok (q (p b x).1) (sto (p b x).2))) (hl : xs.length ≤ 1000000) : lComp s G tYes e vs σ st = some (.ok ((mapS p b xs).1.map q) (sto (mapS p b xs).2)) := by
  unfold lComp
  rw [bnd_ok h]
  dsimp only
  rw [bnd_ok (mapS_go sto sg p q xs b h1 h3), if_pos]
  · rfl
  · refine okLen_of _ ?_
    rw [List.length_map, mapS_len]
    exact hl
end
end Mi
end
set_option Elab.async false
set_option linter.all false
set_option autoImplicit false
set_option maxRecDepth 100000
/-! Mi: more values. -/
noncomputable section
namespace Mi
open PySem
section
variable {st s1 s2 s3 : Store} {σ : Env} {n m k l : Nat} {a b o i e : E} {x y d : D} {ds : List D} {α : Type} {f : α → D}
theorem o_mul_nl (h : m ≤ 9223372036854775807) : oMul (dN n) (dN m) = some (dN (n * m)) := by
  show (if mulOk (n : Int) (m : Int) then some (D.int ((n : Int) * (m : Int))) else none) = _
  rw [if_pos]; · rfl
  rw [mulOk_eq, Bool.or_eq_true]
  refine .inr ?_
  rw [Bool.and_eq_true]; exact ⟨decide_eq_true (by omega), decide_eq_true (by omega)⟩
theorem o_mul_ln (h : n ≤ 1000000) : oMul (dN n) (dN m) = some (dN (n * m)) := by
  show (if mulOk (n : Int) (m : Int) then some (D.int ((n : Int) * (m : Int))) else none) = _
  rw [if_pos]; · rfl
  rw [mulOk_eq, Bool.or_eq_true]
  refine .inl ?_
  rw [Bool.and_eq_true]; exact ⟨decide_eq_true (by omega), decide_eq_true (by omega)⟩
theorem o_pow_18 : oPow (dN 10) (dN 18) = some (dN 1000000000000000000) := by
  show (if powOk (10 : Int) (18 : Int) then _ else _) = _
  rw [if_pos]
  · rfl
  · rw [powOk_eq]; rfl
def lmax (xs : List Nat) : Nat := xs.foldl max 0
def lmin : List Nat → Nat
  | [] => 0
  | x :: xs => xs.foldl min x
theorem max_go : ∀ (xs : List Nat) (a : Nat), (xs.map fun (n : Nat) => (n : Int)).foldl max (a : Int) = ((xs.foldl max a : Nat) : Int)
  | [], _ => rfl
  | x :: xs, a => by
    rw [List.map_cons, List.foldl_cons, List.foldl_cons, ← max_go xs]
    congr 1
    omega
theorem min_go : ∀ (xs : List Nat) (a : Nat), (xs.map fun (n : Nat) => (n : Int)).foldl min (a : Int) = ((xs.foldl min a : Nat) : Int)
  | [], _ => rfl
  | x :: xs, a => by
    rw [List.map_cons, List.foldl_cons, List.foldl_cons, ← min_go xs]
    congr 1
    omega
theorem v_max {xs : List Nat} (h : xs ≠ []) : gMax st (.lst (xs.map dN)) = some (dN (lmax xs)) := by
  show (match intsOf (xs.map dN) with | some ns => (match ns.max? with | some m => some (D.int m) | none => none) | none => none) = _
  rw [intsOf_nat]
  cases xs with
  | nil => exact absurd rfl h
  | cons y ys =>
    dsimp only
    rw [List.map_cons, List.max?_cons']
    dsimp only
    rw [max_go]
    unfold lmax
    rw [List.foldl_cons, Nat.zero_max]
theorem v_min {xs : List Nat} (h : xs ≠ []) : gMin st (.lst (xs.map dN)) = some (dN (lmin xs)) := by
  show (match intsOf (xs.map dN) with | some ns => (match ns.min? with | some m => some (D.int m) | none => none) | none => none) = _
  rw [intsOf_nat]
  cases xs with
  | nil => exact absurd rfl h
  | cons y ys =>
    dsimp only
    rw [List.map_cons, List.min?_cons']
    dsimp only
    rw [min_go]
    rfl
theorem fold_max_ge : ∀ (xs : List Nat) (a : Nat), a ≤ xs.foldl max a ∧ ∀ x ∈ xs, x ≤ xs.foldl max a
  | [], a => ⟨Nat.le_refl _, fun _ h => nomatch h⟩
  | y :: ys, a => by
    obtain ⟨h1, h2⟩ := fold_max_ge ys (max a y)
    rw [List.foldl_cons]
    refine ⟨by omega, fun x hx => ?_⟩
    rcases List.mem_cons.mp hx with rfl | hx
    · omega
    · exact h2 x hx
theorem fold_max_mem : ∀ (xs : List Nat) (a : Nat), xs.foldl max a = a ∨ xs.foldl max a ∈ xs
  | [], a => .inl rfl
  | y :: ys, a => by
    rw [List.foldl_cons]
    rcases fold_max_mem ys (max a y) with h | h
    · rw [h]
      rcases Nat.le_total a y with q | q
      · right; rw [Nat.max_eq_right q]; exact .head _
      · left; exact Nat.max_eq_left q
    · exact .inr (.tail _ h)
theorem fold_min_le : ∀ (xs : List Nat) (a : Nat), xs.foldl min a ≤ a ∧ ∀ x ∈ xs, xs.foldl min a ≤ x
  | [], a => ⟨Nat.le_refl _, fun _ h => nomatch h⟩
  | y :: ys, a => by
    obtain ⟨h1, h2⟩ := fold_min_le ys (min a y)
    rw [List.foldl_cons]
    refine ⟨by omega, fun x hx => ?_⟩
    rcases List.mem_cons.mp hx with rfl | hx
    · omega
    · exact h2 x hx
theorem fold_min_mem : ∀ (xs : List Nat) (a : Nat), xs.foldl min a = a ∨ xs.foldl min a ∈ xs
  | [], a => .inl rfl
  | y :: ys, a => by
    rw [List.foldl_cons]
    rcases fold_min_mem ys (min a y) with h | h
    · rw [h]
      rcases Nat.le_total a y with q | q
      · left; exact Nat.min_eq_left q
      · right; rw [Nat.min_eq_right q]; exact .head _
    · exact .inr (.tail _ h)
theorem lmax_ge {xs : List Nat} {x : Nat} (h : x ∈ xs) : x ≤ lmax xs := (fold_max_ge xs 0).2 x h
theorem lmax_mem {xs : List Nat} (h : xs ≠ []) : lmax xs ∈ xs := by
  rcases fold_max_mem xs 0 with q | q
  · cases xs with
    | nil => exact absurd rfl h
    | cons y ys =>
      have h1 := (fold_max_ge (y :: ys) 0).2 y (.head _)
      rw [q] at h1
      unfold lmax
      rw [q, ← Nat.le_zero.mp h1]
      exact .head _
  · exact q
theorem lmin_le {xs : List Nat} {x : Nat} (h : x ∈ xs) : lmin xs ≤ x := by
  cases xs with
  | nil => exact nomatch h
  | cons y ys =>
    obtain ⟨h1, h2⟩ := fold_min_le ys y
    rcases List.mem_cons.mp h with rfl | h
    · exact h1
    · exact h2 x h
theorem lmin_mem {xs : List Nat} (h : xs ≠ []) : lmin xs ∈ xs := by
  cases xs with
  | nil => exact absurd rfl h
  | cons y ys =>
    rcases fold_min_mem ys y with q | q
    · show ys.foldl min y ∈ _; rw [q]; exact .head _
    · exact .tail _ q
/-! ### sorted(xs) of whole numbers, a range as a value -/
/-- sorted -/
theorem sortD_map {st : Store} (f : α → D) (k : α → PyData) (xs ys : List α) (hp : toPys st (xs.map f) = some (xs.map k)) (hperm : ys.Perm xs) (hs : ys.Pairwise fun a b => W.dataLe false k a b = true) (ha : ∀ a b, a ∈ xs → b ∈ xs → W.dataLe false k a b = true → W.dataLe false k b a = true → a = b)
    (h1 : alikeB (xs.map k) = true) (h2 : ((xs.map k).all isTup1 || (xs.map k).all noTup) = true) (h3 : okLen xs.length = true) (h4 : (xs.map k).all (fun x => decide (x.depth ≤ 64)) = true) : sortD st (xs.map f) = some (ys.map f) := by
  unfold sortD
  rw [hp]
  dsimp only
  rw [h1, h2, h4, List.length_map, h3, if_pos (by rfl)]
  have hz : (xs.map f).zip (xs.map k) = xs.map fun a => (f a, k a) := by
    rw [List.zip_map']
  have hm : (xs.map fun a => (f a, k a)).mergeSort (W.dataLe false (·.2)) = (xs.mergeSort (W.dataLe false k)).map fun a => (f a, k a) := by
    rw [List.map_mergeSort]
    intro a _ b _
    rfl
  have hy : xs.mergeSort (W.dataLe false k) = ys := by
    have T := PySem.W.sortLe_total (PyProof.Rows.listOrd PyProof.Rows.itemOrd) false (fun a : α => W.keyToks (k a))
    refine List.Perm.eq_of_pairwise (le := fun a b => W.dataLe false k a b = true) (fun a b ha' hb' q1 q2 => ha a b ?_ ?_ q1 q2) (List.pairwise_mergeSort (le := W.dataLe false k) T.trans (fun a b => by rw [Bool.or_eq_true]; exact T.total a b) xs) hs ((List.mergeSort_perm xs _).trans hperm.symm)
    · exact (List.mergeSort_perm xs _).mem_iff.mp ha'
    · exact hperm.mem_iff.mp hb'
  rw [hz, hm, hy, List.map_map]
  rfl
theorem alikeB_nat (xs : List Nat) : alikeB (xs.map pN) = true := by
  unfold alikeB
  rw [List.all_map]
  refine List.all_eq_true.mpr fun x hx => ?_
  show ((xs.map pN).all fun b => W.alike (pN x) b) = true
  rw [List.all_map]
  exact List.all_eq_true.mpr fun y hy => rfl
theorem sortD_nat {st : Store} (xs : List Nat) (hl : okLen xs.length = true) : sortD st (nsD xs) = some (nsD (sortN xs)) := by
  have hle : ∀ a b : Nat, W.dataLe false pN a b = decide (a ≤ b) := fun a b => by
    have := congrFun (congrFun (W.dataLe_int (β := Nat) (fun n => (n : Int))) a) b
    have e : W.dataLe false pN a b = decide ((a : Int) ≤ (b : Int)) := this
    rw [e, decide_eq_decide]; omega
  refine sortD_map dN pN xs _ (toPys_nsD st xs) (List.mergeSort_perm xs _) ?_ (fun a b _ _ h1 h2 => ?_) (alikeB_nat xs) ?_ hl ?_
  · refine (List.pairwise_mergeSort (le := fun a b : Nat => decide (a ≤ b)) (fun a b c h1 h2 => by simp at *; omega) (fun a b => by simp; omega) xs).imp fun {a b} h => ?_
    rw [hle]; exact h
  · rw [hle] at h1 h2
    simp at h1 h2
    omega
  · rw [Bool.or_eq_true]
    refine .inr ?_
    rw [List.all_map]
    exact List.all_eq_true.mpr fun _ _ => rfl
  · rw [List.all_map]
    exact List.all_eq_true.mpr fun _ _ => rfl
theorem v_sort {xs : List Nat} (h : xs.length ≤ 1000000) : sortD st (xs.map dN) = some ((sortN xs).map dN) := sortD_nat xs (okLen_of _ h)
theorem sortN_perm (r : List Nat) : (sortN r).Perm r := List.mergeSort_perm r _
theorem sortN_len (r : List Nat) : (sortN r).length = r.length := (sortN_perm r).length_eq
theorem mem_sortN {r : List Nat} {x : Nat} : x ∈ sortN r ↔ x ∈ r := (sortN_perm r).mem_iff
theorem sortN_pw (r : List Nat) : (sortN r).Pairwise (· ≤ ·) := by
  have := List.pairwise_mergeSort (le := fun a b : Nat => decide (a ≤ b)) (fun a b c h1 h2 => by simp at *; omega) (fun a b => by simp; omega) r
  exact this.imp fun h => by simpa using h
theorem ev_rng (h : a σ st = some (.ok (dN n) s1)) (hl : n ≤ 1000000) : eRng a σ st = some (.ok (.rng 0 (n : Int)) s1) := by
  unfold eRng
  rw [bnd_ok h]
  show need (if small62 (n : Int) then _ else _) s1 = _
  rw [if_pos (small_nat' n hl)]; rfl
theorem oD_low [Enc f] (n : Nat) (x : Option α) : below n (oD f x) = true := by
  cases x with
  | none => rfl
  | some x => exact Enc.low n x
theorem oD_loc [Enc f] (x : Option α) : isLoc (oD f x) = false := by
  cases x with
  | none => rfl
  | some x => exact Enc.nl x
/-! ### keys -/
class KAt {α : Type} (f : α → D) where
  dep : Nat
  key : α → NestedKey
  of : ∀ x, keyOf (f x) = some (key x)
  inj : ∀ x y, key x = key y → x = y
  low : ∀ x, (key x).depth ≤ dep
instance : KAt dN := ⟨0, fun n => .num (n : Int), fun _ => rfl, fun x y h => by cases h; rfl, fun _ => Nat.le_refl _⟩
theorem keysOf_map [KAt f] : ∀ xs : List α, keysOf (xs.map f) = some (xs.map (KAt.key f))
  | [] => rfl
  | x :: xs => by
    rw [List.map_cons, List.map_cons]
    unfold keysOf
    rw [KAt.of, keysOf_map xs]
theorem keys_inj [KAt f] : ∀ xs ys : List α, xs.map (KAt.key f) = ys.map (KAt.key f) → xs = ys
  | [], [], _ => rfl
  | [], _ :: _, h => nomatch h
  | _ :: _, [], h => nomatch h
  | x :: xs, y :: ys, h => by
    rw [List.map_cons, List.map_cons, List.cons.injEq] at h
    rw [KAt.inj _ _ h.1, keys_inj xs ys h.2]
theorem keys_dep [KAt f] : ∀ xs : List α, NestedKey.depthAll (xs.map (KAt.key f)) ≤ KAt.dep f
  | [] => Nat.zero_le _
  | x :: xs => by
    rw [List.map_cons]
    unfold NestedKey.depthAll
    have := KAt.low (f := f) x
    have := keys_dep xs
    omega
instance (f : α → D) [KAt f] : KAt (tD f) := ⟨KAt.dep f + 1, fun xs => .tup (xs.map (KAt.key f)), fun xs => by unfold keyOf; rw [keysOf_map], fun x y h => keys_inj _ _ (NestedKey.tup.inj h), fun xs => by
  unfold NestedKey.depth
  have := keys_dep (f := f) xs
  omega⟩
instance {β : Type} (f : α → D) (g : β → D) [KAt f] [KAt g] : KAt (pD f g) := ⟨max (KAt.dep f) (KAt.dep g) + 1, fun p => .tup [KAt.key f p.1, KAt.key g p.2], fun p => by
  unfold keyOf keysOf keysOf keysOf
  rw [KAt.of, KAt.of], fun x y h => by
  simp only [NestedKey.tup.injEq, List.cons.injEq, and_true] at h
  exact Prod.ext (KAt.inj _ _ h.1) (KAt.inj _ _ h.2), fun p => by
  have h1 := KAt.low (f := f) p.1
  have h2 := KAt.low (f := g) p.2
  unfold NestedKey.depth NestedKey.depthAll NestedKey.depthAll NestedKey.depthAll
  omega⟩
theorem ev_lsort {xs : List D} (h : a σ st = some (.ok x s1)) (e1 : seqOf s1 x = some ds) (e2 : sortD s1 ds = some xs) : lSort a σ st = some (.ok xs s1) := by
  unfold lSort
  rw [bnd_ok h]
  exact look_ok (by rw [e1]; exact e2)
theorem src_ii {i j : Int} : srcOf (.tup [.int i, .int j]) = some ([i, j].map iN) := rfl
theorem src_nn : srcOf (.tup [dN n, dN m]) = some ([n, m].map dN) := rfl
/-! ### values that may be None -/
instance : Enc (oD dN) := ⟨fun x => match x with | none => .none | some n => .int (n : Int), 0, fun ρ x => by cases x <;> rfl, fun n x => by cases x <;> rfl, fun x => by cases x <;> rfl, fun x => by cases x <;> exact Nat.le_refl _⟩
instance : EncEq (oD dN) := ⟨fun x y => by
  cases x with
  | none => cases y with
    | none => rfl
    | some b => rfl
  | some a => cases y with
    | none => rfl
    | some b =>
      have := EncEq.eqv (f := dN) a b
      rw [show decide (some a = some b) = decide (a = b) from decide_eq_decide.mpr ⟨fun h => Option.some.inj h, fun h => h ▸ rfl⟩]
      exact this⟩
theorem c_in_non {xs : List (Option Nat)} : dIn st .non (.lst (xs.map (oD dN))) = some (decide (none ∈ xs)) := (c_in_l (f := oD dN) (a := none) (xs := xs) (by decide)).trans (congrArg some (decide_eq_decide.mpr Iff.rfl))
theorem some_map : ∀ {xs : List (Option Nat)}, none ∉ xs → xs.map (oD dN) = (xs.filterMap id).map dN
  | [], _ => rfl
  | none :: xs, h => absurd (.head _) h
  | some n :: xs, h => by
    rw [List.map_cons, some_map fun q => h (.tail _ q)]
    rfl
theorem v_max_o {xs : List (Option Nat)} (h : none ∉ xs) (h2 : xs ≠ []) : gMax st (.lst (xs.map (oD dN))) = some (dN (lmax (xs.filterMap id))) := by
  rw [some_map h]
  refine v_max fun e => ?_
  cases xs with
  | nil => exact h2 rfl
  | cons x xs =>
    cases x with
    | none => exact h (.head _)
    | some n => exact nomatch (show n :: xs.filterMap id = [] from e)
theorem flat_le {β γ : Type} {g : β → List γ} {b : Nat} : ∀ {xs : List β}, (∀ x ∈ xs, (g x).length ≤ b) → (xs.flatMap g).length ≤ xs.length * b
  | [], _ => by simp
  | x :: xs, h => by
    have h1 := h x (.head _)
    have h2 := flat_le (xs := xs) fun y hy => h y (.tail _ hy)
    rw [List.flatMap_cons, List.length_append, List.length_cons, Nat.add_mul]
    omega
/-! ### compared with nothing -/
section
variable {xs : List α} [DecidableEq α] [Enc f] [EncEq f]
theorem c_eq_l0 (h : Enc.dep (lD f) ≤ 64) : dEq st (.lst (xs.map f)) (.lst []) = some (decide (xs = [])) := c_eq (f := lD f) (a := xs) (b := []) h
theorem c_ne_l0 (h : Enc.dep (lD f) ≤ 64) : dNe st (.lst (xs.map f)) (.lst []) = some (!decide (xs = [])) := c_ne (f := lD f) (a := xs) (b := []) h
theorem c_eq_t0 (h : Enc.dep (tD f) ≤ 64) : dEq st (.tup (xs.map f)) (.tup []) = some (decide (xs = [])) := c_eq (f := tD f) (a := xs) (b := []) h
theorem c_ne_t0 (h : Enc.dep (tD f) ≤ 64) : dNe st (.tup (xs.map f)) (.tup []) = some (!decide (xs = [])) := c_ne (f := tD f) (a := xs) (b := []) h
end
/-! ### a while that answers -/
theorem wh_rt {t : T} {p : S} {σ1 : Env} {B : Bool} (h : t σ st = some (.ok B s1)) (hB : B = true) (h2 : p σ s1 = some (.rt d s2)) : whN t p (n + 1) σ st = some (.rt d s2) := by
  subst hB
  unfold whN
  show sBnd (t σ) σ (fun c => fun st => if c then (match p σ st with
      | some (.nx σ2 st2) => whN t p n σ2 st2
      | some (.ct σ2 st2) => whN t p n σ2 st2
      | some (.bk σ2 st2) => some (.nx σ2 st2)
      | r => r) else some (.nx σ st)) st = _
  rw [sBnd_ok h, if_pos rfl, h2]
/-! ### what raises -/
section
variable {p q : S} {x : Exn} {σ1 : Env} {t : T} {G : G} {r : Option RS}
theorem sBnd_ex {β : Type} {m : M β} {k : β → Store → Option RS} (h : m st = some (.ex x s1)) : sBnd m σ k st = some (.ex x σ s1) := by unfold sBnd; rw [h]
theorem st_expr_ex (h : a σ st = some (.ex x s1)) : sExpr a σ st = some (.ex x σ s1) := sBnd_ex h
theorem st_if_ex (h : t σ st = some (.ex x s1)) : sIf t p q σ st = some (.ex x σ s1) := sBnd_ex h
theorem st_ret_ex (h : a σ st = some (.ex x s1)) : sRet a σ st = some (.ex x σ s1) := sBnd_ex h
theorem st_set_ex (h : a σ st = some (.ex x s1)) : sSet n a σ st = some (.ex x σ s1) := sBnd_ex h
theorem sq_ex (h : p σ st = some (.ex x σ1 s1)) : sSeq p q σ st = some (.ex x σ1 s1) := by
  unfold sSeq; rw [h]
theorem sq_rt {d : D} (h : p σ st = some (.rt d s1)) : sSeq p q σ st = some (.rt d s1) := by
  unfold sSeq; rw [h]
theorem for_ex {ds : List D} (h : G d σ = some σ1) (h2 : p σ1 st = some (.ex x σ1 s1)) : forFix G p (d :: ds) σ st = some (.ex x σ1 s1) := by
  unfold forFix; rw [h]; dsimp only; rw [h2]
theorem try_nx {sub : Str → Str → Option Bool} {hs : List (Str × S)} (h : p σ st = some (.nx σ1 s1)) : sTry sub p hs σ st = some (.nx σ1 s1) := by
  unfold sTry; rw [h]
theorem try_ex {sub : Str → Str → Option Bool} {hs : List (Str × S)} (h : p σ st = some (.ex x σ1 s1)) (h2 : sHands sub x hs σ1 s1 = r) : sTry sub p hs σ st = r := by
  unfold sTry; rw [h]; exact h2
theorem hand_yes {sub : Str → Str → Option Bool} {hs : List (Str × S)} {c : Str} (h : sub x.name c = some true) (h2 : q σ st = some (.nx σ1 s1)) : sHands sub x ((c, q) :: hs) σ st = some (.nx σ1 s1) := by
  show (match sub x.name c with | some true => noEx (q σ st) | some false => sHands sub x hs σ st | none => none) = _
  rw [h]; dsimp only; rw [h2]; rfl
theorem hand_no {sub : Str → Str → Option Bool} {hs : List (Str × S)} {c : Str} (h : sub x.name c = some false) (h2 : sHands sub x hs σ st = r) : sHands sub x ((c, q) :: hs) σ st = r := by
  show (match sub x.name c with | some true => noEx (q σ st) | some false => sHands sub x hs σ st | none => none) = _
  rw [h]; exact h2
end
/-! ### dicts that serve as sets -/
class KeyEnc {α : Type} (f : α → D) where
  key : α → NestedKey
  of : ∀ x, tupKey (f x) = some (key x)
  inj : ∀ x y, key x = key y → x = y
theorem tup_key {f : α → D} [KAt f] {x : α} (hd : KAt.dep f ≤ 8) {ds : List D} (e : f x = .tup ds) : tupKey (f x) = some (KAt.key f x) := by
  have h := KAt.of (f := f) x
  rw [e] at h ⊢
  unfold tupKey
  dsimp only
  rw [h]
  dsimp only
  rw [if_pos (Nat.le_trans (KAt.low x) hd)]
instance : KeyEnc (tD dN) := ⟨KAt.key (tD dN), fun x => tup_key (by decide) rfl, KAt.inj⟩
instance : KeyEnc (tD (tD dN)) := ⟨KAt.key (tD (tD dN)), fun x => tup_key (by decide) rfl, KAt.inj⟩
instance : KeyEnc (pD dN dN) := ⟨KAt.key (pD dN dN), fun x => tup_key (by decide) rfl, KAt.inj⟩
def dctS (f : α → D) (xs : List α) : O := .dct (!xs.isEmpty) (xs.map fun x => (f x, D.bl true))
def insN [DecidableEq α] (xs : List α) (x : α) : List α := if x ∈ xs then xs else xs ++ [x]
theorem mem_insN [DecidableEq α] {xs : List α} {x y : α} : y ∈ insN xs x ↔ y = x ∨ y ∈ xs := by
  unfold insN
  split
  · rename_i h
    exact ⟨.inr, fun q => q.elim (fun e => e ▸ h) id⟩
  · simp [or_comm]
theorem kEq_enc [DecidableEq α] [KeyEnc f] (x y : α) : kEq (f x) (f y) = decide (x = y) := by
  rw [kEq_tup (KeyEnc.of (f := f) x) (KeyEnc.of (f := f) y)]
  by_cases h : x = y
  · subst h; simp
  · rw [decide_eq_false (fun z => h (KeyEnc.inj x y z)), decide_eq_false h]
theorem any_key [DecidableEq α] [KeyEnc f] (xs : List α) (x : α) : ((xs.map fun x => (f x, D.bl true)).any fun p => kEq p.1 (f x)) = decide (x ∈ xs) := by
  induction xs with
  | nil => rfl
  | cons y ys ih =>
    rw [List.map_cons, List.any_cons, ih]
    show (kEq (f y) (f x) || _) = _
    rw [kEq_enc]
    by_cases h : y = x
    · subst h; simp
    · have : ¬ x = y := fun e => h e.symm
      simp [h, this]
theorem dPut_S [DecidableEq α] [KeyEnc f] (xs : List α) (x : α) (hl : xs.length ≤ 1000000) : dPut (!xs.isEmpty) (xs.map fun x => (f x, D.bl true)) (f x) (.bl true) = some (!(insN xs x).isEmpty, (insN xs x).map fun x => (f x, D.bl true)) := by
  unfold dPut
  rw [if_pos (okLt_of _ (by rw [List.length_map]; exact hl))]
  have hk : kOk true (f x) = true := by
    show (tupKey (f x)).isSome = true
    rw [KeyEnc.of]; rfl
  have hk' : kOk false (f x) = false := by
    have := KeyEnc.of (f := f) x
    show (atomKey (f x)).isSome = false
    cases hd : f x <;> rw [hd] at this <;> first | rfl | (simp only [tupKey] at this; cases this)
  cases xs with
  | nil =>
    show (if kOk false (f x) then _ else _) = _
    rw [if_neg (by rw [hk']; exact Bool.false_ne_true)]
    show (if kOk true (f x) then _ else _) = _
    rw [if_pos hk]
    rfl
  | cons y ys =>
    show (if kOk true (f x) then _ else _) = _
    rw [if_pos hk]
    unfold kPut
    rw [any_key]
    unfold insN
    by_cases h : x ∈ y :: ys
    · rw [if_pos (decide_eq_true h), if_pos h]
      congr 2
      rw [List.map_map]
      apply List.map_congr_left
      intro z _
      show (if kEq (f z) (f x) then _ else _) = _
      split <;> rfl
    · rw [if_neg (by simpa using h), if_neg h]
      simp
theorem st_putS [DecidableEq α] [KeyEnc f] {xs : List α} {x : α} {s4 : Store} (h : a σ st = some (.ok (.bl true) s1)) (ho : o σ s1 = some (.ok (.loc l) s2)) (hi : i σ s2 = some (.ok (f x) s3)) (hl : s3[l]? = some (dctS f xs)) (hn : xs.length ≤ 1000000) (he : s3.set l (dctS f (insN xs x)) = s4) : sPutD o i a σ st = some (.nx σ s4) := by
  subst he
  unfold sPutD
  rw [sBnd_ok h, sBnd_ok (by rw [bnd_ok ho, bnd_ok hi]; rfl)]
  dsimp only
  rw [hl]
  unfold dctS
  dsimp only
  rw [dPut_S xs x hn]
theorem ev_dct0 (e : Push st (.dct false []) l s2) : eDct0 σ st = some (.ok (.loc l) s2) := by
  obtain ⟨rfl, rfl⟩ := e
  rfl
theorem dctS_nil : dctS f [] = .dct false [] := rfl
theorem ev_lkeys {xs : List α} (h : a σ st = some (.ok (.loc l) s1)) (hl : s1[l]? = some (dctS f xs)) (hn : xs.length ≤ 1000000) : lKeys a σ st = some (.ok (xs.map f) s1) := by
  unfold lKeys
  rw [bnd_ok h]
  refine look_ok ?_
  unfold dctOf
  dsimp only
  rw [hl]
  unfold dctS
  dsimp only
  rw [if_pos (okLen_of _ (by rw [List.length_map]; exact hn)), List.map_map]
  rfl
end
end Mi
end
set_option Elab.async false
set_option linter.all false
set_option autoImplicit false
set_option maxRecDepth 100000
/-! Mi: more values, loops with a count. -/
noncomputable section
namespace Mi
open PySem
section
variable {st s1 s2 s3 : Store} {σ : Env} {n m k l : Nat} {a b o i e : E} {x y d : D} {ds : List D} {α : Type} {f : α → D}
theorem wh_inv {t : T} {p : S} {J : Nat → Env → Store → Prop} (c : Nat → Bool) (k : Nat) (ht : ∀ i σ st, J i σ st → t σ st = some (.ok (c i) st)) (hb : ∀ i σ st, J i σ st → i < k → ∃ σ1 s1, p σ st = some (.nx σ1 s1) ∧ J (i + 1) σ1 s1) (he : c k = false) (hl : ∀ i < k, c i = true) :
    ∀ (n i : Nat) (σ : Env) (st : Store), i ≤ k → k < n + i → J i σ st → ∃ σ1 s1, whN t p n σ st = some (.nx σ1 s1) ∧ J k σ1 s1
  | 0, i, _, _, h, h2, _ => by omega
  | n + 1, i, σ, st, h, h2, hj => by
    rcases Nat.lt_or_ge i k with q | q
    · obtain ⟨σ1, s1, e1, e2⟩ := hb i σ st hj q
      obtain ⟨σ2, s2, e3, e4⟩ := wh_inv c k ht hb he hl n (i + 1) σ1 s1 q (by omega) e2
      exact ⟨σ2, s2, wh_go (ht i σ st hj) (hl i q) e1 e3, e4⟩
    · have : i = k := by omega
      subst this
      exact ⟨σ, st, wh_end (ht i σ st hj) he, hj⟩
theorem v_min_m {g : α → Nat} {xs : List α} (h : xs ≠ []) : gMin st (.lst (xs.map fun x => dN (g x))) = some (dN (lmin (xs.map g))) := by
  have e : (xs.map fun x => dN (g x)) = (xs.map g).map dN := by rw [List.map_map]; rfl
  rw [e]; exact v_min (by simpa using h)
theorem v_max_m {g : α → Nat} {xs : List α} (h : xs ≠ []) : gMax st (.lst (xs.map fun x => dN (g x))) = some (dN (lmax (xs.map g))) := by
  have e : (xs.map fun x => dN (g x)) = (xs.map g).map dN := by rw [List.map_map]; rfl
  rw [e]; exact v_max (by simpa using h)
theorem max_loc {l : Nat} (h : st[l]? = some (.lst ds)) (h2 : gMax st (.lst ds) = some x) : gMax st (.loc l) = some x := by
  rw [← h2]; show (match lstOf st (.loc l) with | some ds => _ | none => none) = (match lstOf st (.lst ds) with | some ds => _ | none => none)
  rw [lst_loc h]; rfl
theorem c_in_p {u w : Nat} {xs : List (Nat × Nat)} : dIn st (.tup [dN u, dN w]) (.lst (xs.map (pD dN dN))) = some (decide ((u, w) ∈ xs)) := (c_in_l (f := pD dN dN) (a := (u, w)) (xs := xs) (by decide)).trans (congrArg some (decide_eq_decide.mpr Iff.rfl))
theorem c_in_ii {i j k : Int} : dIn st (.int i) (.tup [.int j, .int k]) = some (decide (i = j ∨ i = k)) := (c_in_t (f := iN) (a := i) (xs := [j, k]) (by decide)).trans (congrArg some (decide_eq_decide.mpr (by simp)))
/-- up to where a for goes on -/
theorem for_to {G : G} {b : S} (f : α → D) (J : List α → Env → Store → Prop) (pre rest : List α) {σ : Env} {st : Store} (h0 : J [] σ st) (hs : ∀ (p : List α) (x : α) (post : List α) (σ : Env) (st : Store), p ++ x :: post = pre → J p σ st → ∃ σ1 σ2 st2, G (f x) σ = some σ1 ∧ (b σ1 st = some (.nx σ2 st2) ∨ b σ1 st = some (.ct σ2 st2)) ∧ J (p ++ [x]) σ2 st2) :
    ∃ σ' st', forFix G b ((pre ++ rest).map f) σ st = forFix G b (rest.map f) σ' st' ∧ J pre σ' st' := by
  have go : ∀ (ys p : List α) (σ : Env) (st : Store), p ++ ys = pre → J p σ st → ∃ σ' st', forFix G b ((ys ++ rest).map f) σ st = forFix G b (rest.map f) σ' st' ∧ J pre σ' st' := by
    intro ys
    induction ys with
    | nil => intro p σ st e h; rw [List.append_nil] at e; subst e; exact ⟨σ, st, rfl, h⟩
    | cons x ys ih =>
      intro p σ st e h
      obtain ⟨σ1, σ2, st2, e1, e2, h2⟩ := hs p x ys σ st e h
      obtain ⟨σ', st', e3, h3⟩ := ih (p ++ [x]) σ2 st2 (by rw [List.append_assoc]; exact e) h2
      refine ⟨σ', st', ?_, h3⟩
      rw [List.cons_append, List.map_cons]
      conv => lhs; unfold forFix
      rw [e1]
      dsimp only
      rcases e2 with e2 | e2 <;> (rw [e2]; exact e3)
  exact go pre [] σ st rfl h0
theorem for_rt {G : G} {b : S} {σ1 : Env} {ds : List D} (h : G d σ = some σ1) (h2 : b σ1 st = some (.rt x s2)) : forFix G b (d :: ds) σ st = some (.rt x s2) := by
  unfold forFix; rw [h]; dsimp only; rw [h2]
theorem first_split {p : α → Prop} [DecidablePred p] : ∀ {xs : List α}, (∃ x ∈ xs, p x) → ∃ pre x post, xs = pre ++ x :: post ∧ p x ∧ ∀ y ∈ pre, ¬ p y
  | [], ⟨_, h, _⟩ => nomatch h
  | x :: xs, ⟨y, hy, hp⟩ => by
    by_cases hx : p x
    · exact ⟨[], x, xs, rfl, hx, fun _ h => nomatch h⟩
    · obtain ⟨pre, z, post, e, h1, h2⟩ := first_split (xs := xs) ⟨y, (List.mem_cons.mp hy).resolve_left (fun e => hx (e ▸ hp)), hp⟩
      exact ⟨x :: pre, z, post, by rw [e]; rfl, h1, fun w hw => (List.mem_cons.mp hw).elim (fun e => e ▸ hx) (h2 w)⟩
/-! ### a for over a list that may lie in the store -/
def rest (g : G) (b : S) (f : α → D) (xs : List α) : Option Nat → Nat → S
  | none, i => forFix g b ((xs.drop i).map f)
  | some l, i => forLive g b l (xs.length - i) i
def Lives (lo : Option Nat) (ds : List D) (st : Store) : Prop := ∀ l, lo = some l → st[l]? = some (.lst ds)
def loD (lo : Option Nat) (ds : List D) : D := match lo with | none => .lst ds | some l => .loc l
theorem rest_nx {g : G} {b : S} {xs : List α} {lo : Option Nat} {i : Nat} {σ1 σ2 : Env} (hi : i < xs.length) (hl : Lives lo (xs.map f) st) (hg : g (f xs[i]) σ = some σ1) (hb : b σ1 st = some (.nx σ2 s2) ∨ b σ1 st = some (.ct σ2 s2)) : rest g b f xs lo i σ st = rest g b f xs lo (i + 1) σ2 s2 := by
  cases lo with
  | none =>
    show forFix g b ((xs.drop i).map f) σ st = forFix g b ((xs.drop (i + 1)).map f) σ2 s2
    rw [List.drop_eq_getElem_cons hi, List.map_cons]
    conv => lhs; unfold forFix
    rw [hg]
    dsimp only
    rcases hb with hb | hb <;> (rw [hb])
  | some l =>
    show forLive g b l (xs.length - i) i σ st = forLive g b l (xs.length - (i + 1)) (i + 1) σ2 s2
    have e : xs.length - i = (xs.length - (i + 1)) + 1 := by omega
    rw [e]
    conv => lhs; unfold forLive
    rw [hl l rfl]
    dsimp only
    rw [List.getElem?_map, List.getElem?_eq_getElem hi]
    show (match g (f xs[i]) σ with | none => none | some σ1 => _) = _
    rw [hg]
    dsimp only
    rcases hb with hb | hb <;> (rw [hb])
theorem rest_rt {g : G} {b : S} {xs : List α} {lo : Option Nat} {i : Nat} {σ1 : Env} (hi : i < xs.length) (hl : Lives lo (xs.map f) st) (hg : g (f xs[i]) σ = some σ1) (hb : b σ1 st = some (.rt d s2)) : rest g b f xs lo i σ st = some (.rt d s2) := by
  cases lo with
  | none =>
    show forFix g b ((xs.drop i).map f) σ st = _
    rw [List.drop_eq_getElem_cons hi, List.map_cons]
    exact for_rt hg hb
  | some l =>
    show forLive g b l (xs.length - i) i σ st = _
    have e : xs.length - i = (xs.length - (i + 1)) + 1 := by omega
    rw [e]
    conv => lhs; unfold forLive
    rw [hl l rfl]
    dsimp only
    rw [List.getElem?_map, List.getElem?_eq_getElem hi]
    show (match g (f xs[i]) σ with | none => none | some σ1 => _) = _
    rw [hg]
    dsimp only
    rw [hb]
theorem rest_end {g : G} {b : S} {xs : List α} {lo : Option Nat} (hl : Lives lo (xs.map f) st) : rest g b f xs lo xs.length σ st = some (.nx σ st) := by
  cases lo with
  | none =>
    show forFix g b ((xs.drop xs.length).map f) σ st = _
    rw [List.drop_length]; rfl
  | some l =>
    show forLive g b l (xs.length - xs.length) xs.length σ st = _
    rw [Nat.sub_self]
    unfold forLive
    rw [hl l rfl]
    dsimp only
    rw [if_pos (by rw [List.length_map]; exact Nat.le_refl _)]
theorem rest_to {g : G} {b : S} {xs : List α} {lo : Option Nat} (J : Nat → Env → Store → Prop) (hl : ∀ i σ st, J i σ st → Lives lo (xs.map f) st) (k : Nat) (hk : k ≤ xs.length) (hs : ∀ (i : Nat) (hi : i < xs.length) (σ : Env) (st : Store), i < k → J i σ st → ∃ σ1 σ2 st2, g (f xs[i]) σ = some σ1 ∧ (b σ1 st = some (.nx σ2 st2) ∨ b σ1 st = some (.ct σ2 st2)) ∧ J (i + 1) σ2 st2) :
    ∀ (n i : Nat) (σ : Env) (st : Store), i + n = k → J i σ st → ∃ σ' st', rest g b f xs lo i σ st = rest g b f xs lo k σ' st' ∧ J k σ' st'
  | 0, i, σ, st, e, h => by
    have : i = k := by omega
    subst this
    exact ⟨σ, st, rfl, h⟩
  | n + 1, i, σ, st, e, h => by
    have hi : i < xs.length := by omega
    obtain ⟨σ1, σ2, st2, e1, e2, h2⟩ := hs i hi σ st (by omega) h
    obtain ⟨σ', st', e3, h3⟩ := rest_to J hl k hk hs n (i + 1) σ2 st2 (by omega) h2
    exact ⟨σ', st', (rest_nx hi (hl i σ st h) e1 e2).trans e3, h3⟩
theorem st_over {g : G} {b : S} {xs : List α} {lo : Option Nat} {r : Option RS} (h : a σ st = some (.ok (loD lo (xs.map f)) s1)) (hl : Lives lo (xs.map f) s1) (h2 : rest g b f xs lo 0 σ s1 = r) : sFor (iOf a) g b σ st = r := by
  cases lo with
  | none => exact st_for (ev_iof h rfl) h2
  | some l =>
    have e : iOf a σ st = some (.ok (.live l xs.length) s1) := by
      unfold iOf
      rw [bnd_ok h]
      refine look_ok ?_
      show (match s1[l]? with | some (.lst ds) => some (Src.live l ds.length) | _ => none) = _
      rw [hl l rfl]
      dsimp only
      rw [List.length_map]
    unfold sFor
    rw [sBnd_ok e]
    exact h2
theorem set_c0 {u o : O} : (u :: st).set 0 o = o :: st := rfl
/-- one turn of a for -/
theorem step_nx {G : G} {b : S} {d : D} {J : Env → Store → Prop} {σ1 σ2 : Env} {s2 : Store} (hg : G d σ = some σ1) (hb : b σ1 st = some (.nx σ2 s2)) (hj : J σ2 s2) : ∃ σ1 σ2 st2, G d σ = some σ1 ∧ (b σ1 st = some (.nx σ2 st2) ∨ b σ1 st = some (.ct σ2 st2)) ∧ J σ2 st2 := ⟨σ1, σ2, s2, hg, .inl hb, hj⟩
/-- one turn of a while -/
theorem turn_nx {b : S} {J : Env → Store → Prop} {σ2 : Env} {s2 : Store} (hb : b σ st = some (.nx σ2 s2)) (hj : J σ2 s2) : ∃ σ2 st2, b σ st = some (.nx σ2 st2) ∧ J σ2 st2 := ⟨σ2, s2, hb, hj⟩
theorem low_dctS [Enc f] {xs : List α} : belowO n (dctS f xs) = true := by
  show belowk n (xs.map fun x => (f x, D.bl true)) = true
  induction xs with
  | nil => rfl
  | cons x xs ih =>
    rw [List.map_cons]
    show (below n (f x) && (true && belowk n (xs.map fun x => (f x, D.bl true)))) = true
    rw [ih, Enc.low]; rfl
theorem nodup_insN [DecidableEq α] {xs : List α} {x : α} (h : xs.Nodup) : (insN xs x).Nodup := by
  unfold insN
  split
  · exact h
  · rename_i hx
    rw [List.nodup_append]
    exact ⟨h, by simp, fun a ha b hb e => hx (by simp at hb; rw [← hb, ← e]; exact ha)⟩
theorem nodup_le [DecidableEq α] : ∀ {xs ys : List α}, xs.Nodup → (∀ x ∈ xs, x ∈ ys) → xs.length ≤ ys.length
  | [], _, _, _ => Nat.zero_le _
  | x :: xs, ys, hn, hs => by
    rw [List.nodup_cons] at hn
    have hx := hs x (.head _)
    have := nodup_le (xs := xs) (ys := ys.erase x) hn.2 fun y hy => (List.mem_erase_of_ne (show y ≠ x from fun e => hn.1 (e ▸ hy))).mpr (hs y (.tail _ hy))
    rw [List.length_erase_of_mem hx] at this
    have : 0 < ys.length := List.length_pos_of_mem hx
    simp only [List.length_cons]
    omega
theorem asc_uniq {xs ys : List Nat} (h1 : xs.Pairwise (· < ·)) (h2 : ys.Pairwise (· < ·)) (h : ∀ x, x ∈ xs ↔ x ∈ ys) : xs = ys := by
  have n1 : xs.Nodup := h1.imp fun h => Nat.ne_of_lt h
  have n2 : ys.Nodup := h2.imp fun h => Nat.ne_of_lt h
  exact List.Perm.eq_of_pairwise (le := (· ≤ ·)) (fun a b _ _ h1 h2 => Nat.le_antisymm h1 h2) (h1.imp fun h => Nat.le_of_lt h) (h2.imp fun h => Nat.le_of_lt h) ((List.perm_ext_iff_of_nodup n1 n2).mpr h)
theorem sortN_lt {xs : List Nat} (h : xs.Nodup) : (sortN xs).Pairwise (· < ·) := by
  have h1 := sortN_pw xs
  have h2 : (sortN xs).Nodup := (sortN_perm xs).nodup_iff.mpr h
  exact List.pairwise_iff_getElem.mpr fun i j hi hj hij => by
    have a1 := List.pairwise_iff_getElem.mp h1 i j hi hj hij
    have a2 := List.pairwise_iff_getElem.mp h2 i j hi hj hij
    omega
theorem range_lt (n : Nat) : (List.range n).Pairwise (· < ·) := List.pairwise_lt_range
end
end Mi
end
set_option Elab.async false
set_option linter.all false
set_option autoImplicit false
set_option maxRecDepth 100000
/-! Mi: pop at a place, sets of numbers sorted, comprehensions over a list that may lie in the store. -/
noncomputable section
namespace Mi
open PySem
section
variable {st s0 s1 s2 s3 : Store} {σ : Mi.Env} {n m k l : Nat} {a b o i e : E} {x y d : D} {ds : List D} {α : Type} {f : α → D}
theorem Good.setO {s : Store} {o : O} (g : Good s) (h : ∀ n, belowO n o = true) (l : Nat) : Good (s.set l o) := by
  unfold Good okSt at *
  rw [List.length_set, List.all_eq_true]
  intro x hx
  rcases List.mem_or_eq_of_mem_set hx with q | rfl
  · exact List.all_eq_true.mp g x q
  · exact h _
theorem e_popat {ds0 : List D} (ho : o σ s0 = some (.ok (.loc l) s1)) (h0 : s1[l]? = some (.lst ds0)) (hi : i σ s1 = some (.ok (dN k) s2)) (hl : s2[l]? = some (.lst ds)) (hk : ds[k]? = some d) (hs : k ≤ 1000000) {s4 : Store} (he : s2.set l (.lst (ds.eraseIdx k)) = s4) : ePopAt o i σ s0 = some (.ok d s4) := by
  subst he
  have e2 : (bnd (eLoc o σ) fun l => bnd (i σ) fun d => ret (l, d)) s0 = some (.ok (l, dN k) s2) := by
    rw [bnd_ok (loc_ok ho h0), bnd_ok hi]; rfl
  have hk2 : k < ds.length := (List.getElem?_eq_some_iff.mp hk).1
  have e3 : L2.ixN ds.length (k : Int) = some k := by
    unfold L2.ixN
    rw [if_pos (by omega), if_pos (by omega)]
    rfl
  unfold ePopAt
  rw [bnd_ok e2]
  show (if small62 (k : Int) then _ else _) = _
  rw [if_pos (small_nat' k hs), hl]
  dsimp only
  rw [e3]
  dsimp only
  rw [hk]
theorem ev_lsortset {ns out : List Nat} (h : a σ st = some (.ok x s1)) (e : seqOf s1 x = some (ns.map dN)) (hl : ns.length < 60) (hp : out.Pairwise (· < ·)) (hm : ∀ k, k ∈ out ↔ k ∈ ns) : lSortSet a σ st = some (.ok (out.map dN) s1) := by
  unfold lSortSet
  rw [bnd_ok h]
  refine look_ok ?_
  rw [e]
  dsimp only
  rw [intsOf_nat]
  dsimp only
  rw [if_pos (by rw [List.length_map]; exact hl)]
  have : (out.map fun (n : Nat) => (n : Int)) = sortSet (ns.map fun (n : Nat) => (n : Int)) := sortSet_eq (List.pairwise_map.mpr (hp.imp fun h => Int.ofNat_lt.mpr h)) fun k => by
    rw [List.mem_map, List.mem_map]
    constructor
    · rintro ⟨z, h1, h2⟩; exact ⟨z, (hm z).mp h1, h2⟩
    · rintro ⟨z, h1, h2⟩; exact ⟨z, (hm z).mpr h1, h2⟩
  rw [← this, List.map_map]
  rfl
theorem flat_mul {α β : Type} {f : α → List β} {m : Nat} : ∀ {xs : List α}, (∀ x ∈ xs, (f x).length ≤ m) → (xs.flatMap f).length ≤ xs.length * m
  | [], _ => Nat.zero_le _
  | x :: xs, h => by
    rw [List.flatMap_cons, List.length_append, List.length_cons, Nat.succ_mul]
    have h1 := h x (.head _)
    have h2 := flat_mul (xs := xs) fun y hy => h y (.tail _ hy)
    omega
theorem live_go {G : G} {t : T} {e : E} {l : Nat} {st : Store} (s : α → Mi.Env) (p : α → Bool) (q : α → D) (xs : List α) (hl : st[l]? = some (.lst (xs.map f))) (h1 : ∀ x ∈ xs, G (f x) σ = some (s x)) (h2 : ∀ x ∈ xs, t (s x) st = some (.ok (p x) st)) (h3 : ∀ x ∈ xs, p x = true → e (s x) st = some (.ok (q x) st)) :
    ∀ (k i : Nat), i + k = xs.length → compLive G t e σ l k i st = some (.ok (((xs.drop i).filter p).map q) st)
  | 0, i, hi => by
    unfold compLive
    rw [hl]
    dsimp only
    rw [if_pos (by rw [List.length_map]; omega), List.drop_eq_nil_of_le (by omega)]
    rfl
  | k + 1, i, hi => by
    have hlt : i < xs.length := by omega
    have ih := live_go s p q xs hl h1 h2 h3 k (i + 1) (by omega)
    have hm : xs[i] ∈ xs := List.getElem_mem hlt
    unfold compLive
    rw [hl]
    dsimp only
    rw [List.getElem?_map, List.getElem?_eq_getElem hlt]
    show (match G (f xs[i]) σ with | none => none | some σ1 => _) = _
    rw [h1 _ hm]
    dsimp only
    rw [bndN_ok (h2 _ hm), List.drop_eq_getElem_cons hlt]
    cases hp : p xs[i] with
    | true =>
      rw [if_pos rfl, bndN_ok (h3 _ hm hp), bndN_ok ih, List.filter_cons_of_pos hp]
      rfl
    | false => rw [if_neg Bool.false_ne_true, ih, List.filter_cons_of_neg (by simp [hp])]
/-- [e for x in xs if t] over a list that may lie in the store -/
theorem ev_compL {G : G} {t : T} {e : E} {vs : List Nat} {xs : List α} {lo : Option Nat} {sg : α → Mi.Env} {p : α → Bool} {q : α → D} (h : a σ st = some (.ok (loD lo (xs.map f)) s1)) (hl : Lives lo (xs.map f) s1) (h1 : ∀ x ∈ xs, G (f x) (wipe σ vs) = some (sg x)) (h2 : ∀ x ∈ xs, t (sg x) s1 = some (.ok (p x) s1))
    (h3 : ∀ x ∈ xs, p x = true → e (sg x) s1 = some (.ok (q x) s1)) (hn : xs.length ≤ 1000000) : lComp (iOf a) G t e vs σ st = some (.ok ((xs.filter p).map q) s1) := by
  cases lo with
  | none => exact ev_comp (ev_iof h rfl) h1 h2 h3 hn
  | some l =>
    have e1 : iOf a σ st = some (.ok (.live l xs.length) s1) := by
      unfold iOf
      rw [bnd_ok h]
      refine look_ok ?_
      show (match s1[l]? with | some (.lst ds) => some (Src.live l ds.length) | _ => none) = _
      rw [hl l rfl]
      dsimp only
      rw [List.length_map]
    unfold lComp
    rw [bnd_ok e1]
    dsimp only
    rw [bnd_ok (live_go sg p q xs (hl l rfl) h1 h2 h3 xs.length 0 (Nat.zero_add _)), if_pos]
    · rfl
    · refine okLen_of _ ?_
      rw [List.length_map, List.drop_zero]
      exact Nat.le_trans (List.length_filter_le p xs) hn
end
end Mi
end
set_option Elab.async false
set_option linter.all false
set_option autoImplicit false
set_option maxRecDepth 100000
/-! Mi: a for that answers or goes on; comprehensions that make lists; comprehensions that draw, said loosely. -/
noncomputable section
namespace Mi
open PySem
section
variable {α : Type} {f : α → D}
theorem for_or {G : G} {b : S} (f : α → D) (J : Mi.Env → Store → Prop) (N : α → Prop) (R : D → Store → Prop) : ∀ (xs : List α) (σ : Mi.Env) (st : Store), J σ st →
    (∀ x ∈ xs, ∀ σ st, J σ st → ∃ σ1, G (f x) σ = some σ1 ∧ ((∃ σ2 st2, b σ1 st = some (.nx σ2 st2) ∧ J σ2 st2 ∧ N x) ∨ ∃ d st2, b σ1 st = some (.rt d st2) ∧ R d st2)) →
    (∃ σ' st', forFix G b (xs.map f) σ st = some (.nx σ' st') ∧ J σ' st' ∧ ∀ x ∈ xs, N x) ∨ ∃ d st', forFix G b (xs.map f) σ st = some (.rt d st') ∧ R d st'
  | [], σ, st, h, _ => .inl ⟨σ, st, rfl, h, fun _ h => nomatch h⟩
  | x :: xs, σ, st, h, hs => by
    obtain ⟨σ1, e1, h1⟩ := hs x (.head _) σ st h
    rcases h1 with ⟨σ2, st2, e2, h2, hn⟩ | ⟨d, st2, e2, hr⟩
    · rcases for_or f J N R xs σ2 st2 h2 (fun y hy => hs y (.tail _ hy)) with ⟨σ', st', e3, h3, hN⟩ | ⟨d, st', e3, hr⟩
      · refine .inl ⟨σ', st', for_cons e1 e2 e3, h3, fun y hy => ?_⟩
        rcases List.mem_cons.mp hy with rfl | hy
        · exact hn
        · exact hN y hy
      · exact .inr ⟨d, st', for_cons e1 e2 e3, hr⟩
    · exact .inr ⟨d, st2, by rw [List.map_cons]; exact for_rt e1 e2, hr⟩
/-- the first that tells -/
theorem for_some {G : G} {b : S} {st : Store} (f : α → D) (J : Mi.Env → Prop) (h : α → Option D) : ∀ (xs : List α) (σ : Mi.Env), J σ →
    (∀ x ∈ xs, ∀ σ, J σ → ∃ σ1, G (f x) σ = some σ1 ∧ ((∃ d, h x = some d ∧ b σ1 st = some (.rt d st)) ∨ (h x = none ∧ ∃ σ2, b σ1 st = some (.nx σ2 st) ∧ J σ2))) →
    (∃ d, xs.findSome? h = some d ∧ forFix G b (xs.map f) σ st = some (.rt d st)) ∨ (xs.findSome? h = none ∧ ∃ σ', forFix G b (xs.map f) σ st = some (.nx σ' st) ∧ J σ')
  | [], σ, hj, _ => .inr ⟨rfl, σ, rfl, hj⟩
  | x :: xs, σ, hj, hs => by
    obtain ⟨σ1, e1, h1⟩ := hs x (.head _) σ hj
    rcases h1 with ⟨d, hd, e2⟩ | ⟨hn, σ2, e2, hj2⟩
    · exact .inl ⟨d, by rw [List.findSome?_cons, hd], by rw [List.map_cons]; exact for_rt e1 e2⟩
    · rcases for_some f J h xs σ2 hj2 (fun y hy => hs y (.tail _ hy)) with ⟨d, hd, e3⟩ | ⟨hd, σ', e3, hj3⟩
      · exact .inl ⟨d, by rw [List.findSome?_cons, hn]; exact hd, for_cons e1 e2 e3⟩
      · exact .inr ⟨by rw [List.findSome?_cons, hn]; exact hd, σ', for_cons e1 e2 e3, hj3⟩
/-- [[..] for x in xs]: each a list of its own -/
theorem compN_go {G : G} {e : E} {σ : Mi.Env} (s : α → Mi.Env) (q : α → List D) : ∀ (xs : List α) (st : Store), (∀ x ∈ xs, G (f x) σ = some (s x)) → (∀ x ∈ xs, ∀ st : Store, e (s x) st = some (.ok (.loc st.length) (st ++ [O.lst (q x)]))) →
    compFix G tYes e σ (xs.map f) st = some (.ok ((List.range' st.length xs.length).map D.loc) (st ++ xs.map fun x => O.lst (q x)))
  | [], st, _, _ => by rw [List.map_nil, List.map_nil, List.append_nil]; rfl
  | x :: xs, st, h1, h2 => by
    have ih := compN_go s q xs (st ++ [O.lst (q x)]) (fun y hy => h1 y (.tail _ hy)) (fun y hy => h2 y (.tail _ hy))
    rw [List.map_cons]
    unfold compFix
    rw [h1 x (.head _)]
    dsimp only
    rw [bndN_ok (show tYes (s x) st = some (.ok true st) from rfl), if_pos rfl, bndN_ok (h2 x (.head _) st), bndN_ok ih]
    rw [List.length_cons, List.range'_succ, List.map_cons, List.map_cons, List.length_append, List.append_assoc]
    rfl
theorem ev_compN {s : I} {G : G} {e : E} {vs : List Nat} {xs : List α} {σ : Mi.Env} {st s1 : Store} {sg : α → Mi.Env} (q : α → List D) (h : s σ st = some (.ok (.fix (xs.map f)) s1)) (h1 : ∀ x ∈ xs, G (f x) (wipe σ vs) = some (sg x)) (h2 : ∀ x ∈ xs, ∀ st : Store, e (sg x) st = some (.ok (.loc st.length) (st ++ [O.lst (q x)])))
    (hl : xs.length ≤ 1000000) : lComp s G tYes e vs σ st = some (.ok ((List.range' s1.length xs.length).map D.loc) (s1 ++ xs.map fun x => O.lst (q x))) := by
  unfold lComp
  rw [bnd_ok h]
  dsimp only
  rw [bnd_ok (compN_go sg q xs s1 h1 h2), if_pos]
  · rfl
  · refine okLen_of _ ?_
    rw [List.length_map, List.length_range']
    exact hl
/-- [x for x in xs if t] where t draws: some of xs -/
theorem siftE_go {β : Type} {G : G} {t : T} {e : E} {σ : Mi.Env} (sto : β → Store) (s : α → Mi.Env) (q : α → D) : ∀ (xs : List α) (b : β), (∀ x ∈ xs, G (f x) σ = some (s x)) → (∀ x ∈ xs, ∀ b, ∃ B b', t (s x) (sto b) = some (.ok B (sto b'))) → (∀ x ∈ xs, ∀ b, e (s x) (sto b) = some (.ok (q x) (sto b))) →
    ∃ (ys : List α) (b' : β), ys.Sublist xs ∧ compFix G t e σ (xs.map f) (sto b) = some (.ok (ys.map q) (sto b'))
  | [], b, _, _, _ => ⟨[], b, .slnil, rfl⟩
  | x :: xs, b, h1, h2, h3 => by
    obtain ⟨B, b1, e1⟩ := h2 x (.head _) b
    obtain ⟨ys, b2, hs, e2⟩ := siftE_go sto s q xs b1 (fun y hy => h1 y (.tail _ hy)) (fun y hy => h2 y (.tail _ hy)) (fun y hy => h3 y (.tail _ hy))
    cases B with
    | true =>
      refine ⟨x :: ys, b2, hs.cons₂ x, ?_⟩
      rw [List.map_cons]
      unfold compFix
      rw [h1 x (.head _)]
      dsimp only
      rw [bndN_ok e1, if_pos rfl, bndN_ok (h3 x (.head _) b1), bndN_ok e2]
      rfl
    | false =>
      refine ⟨ys, b2, hs.cons x, ?_⟩
      rw [List.map_cons]
      unfold compFix
      rw [h1 x (.head _)]
      dsimp only
      rw [bndN_ok e1, if_neg Bool.false_ne_true]
      exact e2
theorem ev_siftE {β : Type} {s : I} {G : G} {t : T} {e : E} {vs : List Nat} {xs : List α} {σ : Mi.Env} {st : Store} (sto : β → Store) (b : β) {sg : α → Mi.Env} {q : α → D} (h : s σ st = some (.ok (.fix (xs.map f)) (sto b))) (h1 : ∀ x ∈ xs, G (f x) (wipe σ vs) = some (sg x)) (h2 : ∀ x ∈ xs, ∀ b, ∃ B b', t (sg x) (sto b) = some (.ok B (sto b')))
    (h3 : ∀ x ∈ xs, ∀ b, e (sg x) (sto b) = some (.ok (q x) (sto b))) (hl : xs.length ≤ 1000000) : ∃ (ys : List α) (b' : β), ys.Sublist xs ∧ lComp s G t e vs σ st = some (.ok (ys.map q) (sto b')) := by
  obtain ⟨ys, b', hs, e⟩ := siftE_go sto sg q xs b h1 h2 h3
  refine ⟨ys, b', hs, ?_⟩
  unfold lComp
  rw [bnd_ok h]
  dsimp only
  rw [bnd_ok e, if_pos]
  · rfl
  · refine okLen_of _ ?_
    rw [List.length_map]
    exact Nat.le_trans hs.length_le hl
end
end Mi
end
set_option Elab.async false
set_option linter.all false
set_option autoImplicit false
set_option maxRecDepth 100000
/-! Mi: remove, sets of pairs sorted. -/
noncomputable section
namespace Mi
open PySem
section
variable {st s1 s2 : Store} {σ : Mi.Env} {l : Nat} {a e o : E} {x y d : D} {ds : List D} {α : Type} {f : α → D}
theorem st_rem [DecidableEq α] [Enc f] [EncEq f] {xs : List α} {v : α} {ds0 : List D} (hv : v ∈ xs) (hd : Enc.dep f ≤ 64) (ho : o σ st = some (.ok (.loc l) s1)) (h0 : s1[l]? = some (.lst ds0)) (he : e σ s1 = some (.ok (f v) s2)) (hl : s2[l]? = some (.lst (xs.map f))) :
    ∃ j, j < xs.length ∧ sRemD o e σ st = some (.nx σ (s2.set l (.lst ((xs.eraseIdx j).map f)))) := by
  have e2 : (bnd (eLoc o σ) fun l => bnd (e σ) fun d => ret (l, d)) st = some (.ok (l, f v) s2) := by
    rw [bnd_ok (loc_ok ho h0), bnd_ok he]; rfl
  have t1 : Mi.toPys s2 (xs.map f) = some (xs.map (Enc.py f)) := pys_map f _ xs
  have t2 : Mi.toPy s2 (f v) = some (Enc.py f v) := Enc.toPy _ _
  have hany := any_enc f v xs
  rw [decide_eq_true hv] at hany
  cases hp : SeqAt.dataPlace (xs.map (Enc.py f)) (Enc.py f v) with
  | none =>
    unfold SeqAt.dataPlace at hp
    rw [List.findIdx?_eq_none_iff] at hp
    obtain ⟨z, hz, hz2⟩ := List.any_eq_true.mp hany
    have := hp z hz
    rw [hz2] at this
    exact absurd this (by decide)
  | some j =>
    have hj : j < xs.length := by
      unfold SeqAt.dataPlace at hp
      obtain ⟨h1, _⟩ := List.findIdx?_eq_some_iff_getElem.mp hp
      rwa [List.length_map] at h1
    refine ⟨j, hj, ?_⟩
    unfold sRemD
    rw [sBnd_ok e2]
    dsimp only
    rw [hl]
    dsimp only
    rw [t1, t2]
    dsimp only
    rw [if_pos (Nat.le_trans (Enc.dle v) hd), hp]
    dsimp only
    rw [List.eraseIdx_eq_take_drop_succ, List.eraseIdx_eq_take_drop_succ, List.map_append, List.map_take, List.map_drop]
theorem pairsOf_nat : ∀ ls : List (Nat × Nat), pairsOf (ls.map (pD dN dN)) = some (ls.map fun z => ((z.1 : Int), (z.2 : Int)))
  | [] => rfl
  | z :: ls => by
    rw [List.map_cons]
    unfold pairsOf
    show (match pairsOf (ls.map (pD dN dN)) with | some ps => some (((z.1 : Int), (z.2 : Int)) :: ps) | none => none) = _
    rw [pairsOf_nat ls]
    rfl
theorem onceP_le : ∀ ps : List (Int × Int), (onceP ps).length ≤ ps.length
  | [] => Nat.le_refl _
  | p :: ps => by
    unfold onceP
    have := onceP_le ps
    split
    · rw [List.length_cons]; omega
    · rw [List.length_cons, List.length_cons]; omega
theorem ev_lsortsetT {ls : List (Nat × Nat)} (h : a σ st = some (.ok x s1)) (e : lstOf s1 x = some (ls.map (pD dN dN))) (hl : ls.length < 60) (hb : ∀ z ∈ ls, z.1 < 64 ∧ z.2 < 64) :
    ∃ ls' : List (Nat × Nat), ls'.length ≤ ls.length ∧ (∀ z, z ∈ ls' ↔ z ∈ ls) ∧ lSortSetT a σ st = some (.ok (ls'.map (pD dN dN)) s1) := by
  let ps := ls.map fun z => ((z.1 : Int), (z.2 : Int))
  have hmem : ∀ q ∈ sortSetP ps, ∃ z ∈ ls, q = ((z.1 : Int), (z.2 : Int)) := fun q hq => by
    obtain ⟨z, hz, e⟩ := List.mem_map.mp (mem_sortSetP.mp hq)
    exact ⟨z, hz, e.symm⟩
  refine ⟨(sortSetP ps).map fun q => (q.1.toNat, q.2.toNat), ?_, fun z => ?_, ?_⟩
  · rw [List.length_map]
    have h1 : (sortSetP ps).length = (onceP ps).length := (List.mergeSort_perm _ _).length_eq
    have h2 := onceP_le ps
    have h3 : ps.length = ls.length := List.length_map ..
    omega
  · rw [List.mem_map]
    constructor
    · rintro ⟨q, hq, rfl⟩
      obtain ⟨z, hz, rfl⟩ := hmem q hq
      exact hz
    · intro hz
      exact ⟨((z.1 : Int), (z.2 : Int)), mem_sortSetP.mpr (List.mem_map.mpr ⟨z, hz, rfl⟩), rfl⟩
  · unfold lSortSetT
    rw [bnd_ok h]
    refine look_ok ?_
    rw [e]
    dsimp only
    rw [pairsOf_nat]
    dsimp only
    rw [if_pos]
    · congr 1
      rw [List.map_map]
      apply List.map_congr_left
      intro q hq
      obtain ⟨z, hz, rfl⟩ := hmem q hq
      rfl
    · rw [Bool.and_eq_true, decide_eq_true_eq, List.all_eq_true]
      refine ⟨by rw [List.length_map]; exact hl, fun q hq => ?_⟩
      obtain ⟨z, hz, rfl⟩ := List.mem_map.mp hq
      have := hb z hz
      unfold smallP
      simp only [Bool.and_eq_true, decide_eq_true_eq]
      omega
end
end Mi
end
set_option Elab.async false
set_option linter.all false
set_option autoImplicit false
set_option maxRecDepth 100000
/-! Mi: sorted of tuples, the first one empty. -/
noncomputable section
namespace Mi
open PySem
theorem sortD0_map {α : Type} {st : Store} (f : α → D) (k : α → PyData) (xs ys : List α) (hp : toPys st (xs.map f) = some (xs.map k)) (hperm : ys.Perm xs) (hs : ys.Pairwise fun a b => W.dataLe false k a b = true) (ha : ∀ a b, a ∈ xs → b ∈ xs → W.dataLe false k a b = true → W.dataLe false k b a = true → a = b)
    (h1 : alikeB (xs.map k) = true) (h2 : (emptyHead (xs.map k) && (xs.map k).all isTupA) = true) (h3 : okLen xs.length = true) (h4 : (xs.map k).all (fun x => decide (x.depth ≤ 64)) = true) : sortD0 st (xs.map f) = some (ys.map f) := by
  unfold sortD0
  rw [hp]
  dsimp only
  rw [h1, h2, h4, List.length_map, h3, if_pos (by rfl)]
  have hz : (xs.map f).zip (xs.map k) = xs.map fun a => (f a, k a) := by
    rw [List.zip_map']
  have hm : (xs.map fun a => (f a, k a)).mergeSort (W.dataLe false (·.2)) = (xs.mergeSort (W.dataLe false k)).map fun a => (f a, k a) := by
    rw [List.map_mergeSort]
    intro a _ b _
    rfl
  have hy : xs.mergeSort (W.dataLe false k) = ys := by
    have T := PySem.W.sortLe_total (PyProof.Rows.listOrd PyProof.Rows.itemOrd) false (fun a : α => W.keyToks (k a))
    refine List.Perm.eq_of_pairwise (le := fun a b => W.dataLe false k a b = true) (fun a b ha' hb' q1 q2 => ha a b ?_ ?_ q1 q2) (List.pairwise_mergeSort (le := W.dataLe false k) T.trans (fun a b => by rw [Bool.or_eq_true]; exact T.total a b) xs) hs ((List.mergeSort_perm xs _).trans hperm.symm)
    · exact (List.mergeSort_perm xs _).mem_iff.mp ha'
    · exact hperm.mem_iff.mp hb'
  rw [hz, hm, hy, List.map_map]
  rfl
theorem ev_lsort0 {a : E} {σ : Mi.Env} {st s1 : Store} {x : D} {ds xs : List D} (h : a σ st = some (.ok x s1)) (e1 : lstOf s1 x = some ds) (e2 : sortD0 s1 ds = some xs) : lSort0 a σ st = some (.ok xs s1) := by
  unfold lSort0
  rw [bnd_ok h]
  exact look_ok (by rw [e1]; exact e2)
end Mi
end
set_option Elab.async false
set_option linter.all false
set_option autoImplicit false
set_option maxRecDepth 100000
/-! Mi: sorted of tuples of whole numbers none of which is empty; sorted of a dict that serves as a set. -/
noncomputable section
namespace Mi
open PySem
theorem sortD_self {α : Type} {st : Store} (f : α → D) (k : α → PyData) (xs : List α) (hp : toPys st (xs.map f) = some (xs.map k))
    (h1 : alikeB (xs.map k) = true) (h2 : ((xs.map k).all isTup1 || (xs.map k).all noTup) = true) (h3 : okLen xs.length = true) (h4 : (xs.map k).all (fun x => decide (x.depth ≤ 64)) = true) : sortD st (xs.map f) = some ((xs.mergeSort (W.dataLe false k)).map f) := by
  unfold sortD
  rw [hp]
  dsimp only
  rw [h1, h2, h4, List.length_map, h3, if_pos (by rfl)]
  have hz : (xs.map f).zip (xs.map k) = xs.map fun a => (f a, k a) := by
    rw [List.zip_map']
  have hm : (xs.map fun a => (f a, k a)).mergeSort (W.dataLe false (·.2)) = (xs.mergeSort (W.dataLe false k)).map fun a => (f a, k a) := by
    rw [List.map_mergeSort]
    intro a _ b _
    rfl
  rw [hz, hm, List.map_map]
  rfl
def sortT (xs : List (List Nat)) : List (List Nat) := xs.mergeSort (PySem.W.dataLe false (Enc.py (tD dN)))
theorem sortT_perm (xs : List (List Nat)) : (sortT xs).Perm xs := List.mergeSort_perm xs _
theorem alike_nats : ∀ xs ys : List Nat, W.alikeAll (xs.map (Enc.py dN)) (ys.map (Enc.py dN)) = true
  | [], _ => by rw [List.map_nil, W.alikeAll]
  | _ :: _, [] => by rw [List.map_nil, List.map_cons, W.alikeAll]
  | x :: xs, y :: ys => by
    rw [List.map_cons, List.map_cons, W.alikeAll, alike_nats xs ys]
    rfl
theorem v_sortT {st : Store} {xs : List (List Nat)} (hne : ∀ x ∈ xs, x ≠ []) (hl : xs.length ≤ 1000000) : sortD st (xs.map (tD dN)) = some ((sortT xs).map (tD dN)) := by
  refine sortD_self (tD dN) (Enc.py (tD dN)) xs (pys_map (tD dN) _ _) ?_ ?_ (okLen_of _ hl) ?_
  · unfold alikeB
    rw [List.all_eq_true]
    intro a ha
    obtain ⟨a, _, rfl⟩ := List.mem_map.mp ha
    rw [List.all_eq_true]
    intro b hb
    obtain ⟨b, _, rfl⟩ := List.mem_map.mp hb
    show W.alike (.tuple _) (.tuple _) = true
    rw [W.alike]
    exact alike_nats a b
  · rw [Bool.or_eq_true]
    refine .inl ?_
    rw [List.all_eq_true]
    intro a ha
    obtain ⟨c, hc, rfl⟩ := List.mem_map.mp ha
    cases c with
    | nil => exact absurd rfl (hne _ hc)
    | cons x xs => rfl
  · rw [List.all_eq_true]
    intro a ha
    obtain ⟨a, _, rfl⟩ := List.mem_map.mp ha
    exact decide_eq_true (Nat.le_trans (Enc.dle (f := tD dN) a) (by decide))
theorem ev_lsortk {α : Type} {f : α → D} {a : E} {σ : Mi.Env} {st s1 : Store} {l : Nat} {xs : List α} {ys : List D} (h : a σ st = some (.ok (.loc l) s1)) (hl : s1[l]? = some (dctS f xs)) (e : sortD s1 (xs.map f) = some ys) : lSortK a σ st = some (.ok ys s1) := by
  unfold lSortK
  rw [bnd_ok h]
  refine look_ok ?_
  unfold dctOf
  dsimp only
  rw [hl]
  unfold dctS
  dsimp only
  rw [List.map_map]
  exact e
theorem toks_inj : ∀ xs ys : List Nat, W.keyToksAll (xs.map (Enc.py dN)) = W.keyToksAll (ys.map (Enc.py dN)) → xs = ys
  | [], [], _ => rfl
  | [], y :: ys, h => by
    rw [List.map_nil, List.map_cons, W.keyToksAll, W.keyToksAll] at h
    cases h
  | x :: xs, [], h => by
    rw [List.map_nil, List.map_cons, W.keyToksAll, W.keyToksAll] at h
    cases h
  | x :: xs, y :: ys, h => by
    rw [List.map_cons, List.map_cons, W.keyToksAll, W.keyToksAll] at h
    have h2 := (List.cons.inj h).2
    have h3 : (Sum.inl (x : Int) : Int ⊕ List Nat) :: W.keyToksAll (xs.map (Enc.py dN)) = .inl (y : Int) :: W.keyToksAll (ys.map (Enc.py dN)) := h2
    obtain ⟨h4, h5⟩ := List.cons.inj h3
    have h6 : (x : Int) = (y : Int) := Sum.inl.inj h4
    rw [toks_inj xs ys h5, Int.ofNat.inj h6]
theorem leT_anti {a b : List Nat} (h1 : PySem.W.dataLe false (Enc.py (tD dN)) a b = true) (h2 : PySem.W.dataLe false (Enc.py (tD dN)) b a = true) : a = b := by
  unfold W.dataLe W.sortLe at h1 h2
  simp only [cond_false, Bool.not_eq_true'] at h1 h2
  have e := (PyProof.Rows.listOrd PyProof.Rows.itemOrd).total _ _ h2 h1
  exact toks_inj a b e
/-- the order of what is sorted doesn't matter -/
theorem sortT_eq {xs ys : List (List Nat)} (h : xs.Perm ys) : sortT xs = sortT ys := by
  have T := PySem.W.sortLe_total (PyProof.Rows.listOrd PyProof.Rows.itemOrd) false (fun a : List Nat => W.keyToks (Enc.py (tD dN) a))
  have pw : ∀ zs : List (List Nat), (sortT zs).Pairwise fun a b => PySem.W.dataLe false (Enc.py (tD dN)) a b = true := fun zs => List.pairwise_mergeSort (le := W.dataLe false (Enc.py (tD dN))) T.trans (fun a b => by rw [Bool.or_eq_true]; exact T.total a b) zs
  exact List.Perm.eq_of_pairwise (le := fun a b => PySem.W.dataLe false (Enc.py (tD dN)) a b = true) (fun a b _ _ h1 h2 => leT_anti h1 h2) (pw xs) (pw ys) (((sortT_perm xs).trans h).trans (sortT_perm ys).symm)
end Mi
end
set_option Elab.async false
set_option linter.all false
set_option autoImplicit false
set_option maxRecDepth 100000
/-! Mi: dicts that serve as sets of whole numbers; comprehensions whose items are objects. -/
noncomputable section
namespace Mi
open PySem
def dctI (xs : List Nat) : O := .dct false (xs.map fun x => (dN x, D.bl true))
theorem kEq_nat (x y : Nat) : kEq (dN x) (dN y) = decide (x = y) := by
  show decide ((some (NestedKey.num (x : Int)) : Option NestedKey) = some (NestedKey.num (y : Int))) = _
  rw [decide_eq_decide]
  constructor
  · intro h
    have h2 : (x : Int) = (y : Int) := NestedKey.num.inj (Option.some.inj h)
    omega
  · rintro rfl; rfl
theorem any_keyI (xs : List Nat) (x : Nat) : ((xs.map fun x => (dN x, D.bl true)).any fun p => kEq p.1 (dN x)) = decide (x ∈ xs) := by
  induction xs with
  | nil => rfl
  | cons y ys ih =>
    rw [List.map_cons, List.any_cons, ih]
    show (kEq (dN y) (dN x) || _) = _
    rw [kEq_nat]
    by_cases h : y = x
    · subst h; simp
    · have : ¬ x = y := fun e => h e.symm
      simp [h, this]
theorem dPut_I (xs : List Nat) (x : Nat) (hl : xs.length ≤ 1000000) : dPut false (xs.map fun x => (dN x, D.bl true)) (dN x) (.bl true) = some (false, (insN xs x).map fun x => (dN x, D.bl true)) := by
  unfold dPut
  rw [if_pos (okLt_of _ (by rw [List.length_map]; exact hl))]
  rw [if_pos (show kOk false (dN x) = true from rfl)]
  unfold kPut
  rw [any_keyI]
  unfold insN
  by_cases h : x ∈ xs
  · rw [if_pos (decide_eq_true h), if_pos h]
    congr 2
    rw [List.map_map]
    apply List.map_congr_left
    intro z _
    show (if kEq (dN z) (dN x) then _ else _) = _
    split <;> rfl
  · rw [if_neg (by simpa using h), if_neg h]
    simp
section
variable {st s1 s2 s3 s4 : Store} {σ : Mi.Env} {a o i : E} {l : Nat} {xs : List Nat} {x : Nat}
theorem st_putI (h : a σ st = some (.ok (.bl true) s1)) (ho : o σ s1 = some (.ok (.loc l) s2)) (hi : i σ s2 = some (.ok (dN x) s3)) (hl : s3[l]? = some (dctI xs)) (hn : xs.length ≤ 1000000) (he : s3.set l (dctI (insN xs x)) = s4) : sPutD o i a σ st = some (.nx σ s4) := by
  subst he
  unfold sPutD
  rw [sBnd_ok h, sBnd_ok (by rw [bnd_ok ho, bnd_ok hi]; rfl)]
  dsimp only
  rw [hl]
  unfold dctI
  dsimp only
  rw [dPut_I xs x hn]
theorem ev_lkeysI (h : a σ st = some (.ok (.loc l) s1)) (hl : s1[l]? = some (dctI xs)) (hn : xs.length ≤ 1000000) : lKeys a σ st = some (.ok (xs.map dN) s1) := by
  unfold lKeys
  rw [bnd_ok h]
  refine look_ok ?_
  unfold dctOf
  dsimp only
  rw [hl]
  unfold dctI
  dsimp only
  rw [if_pos (okLen_of _ (by rw [List.length_map]; exact hn)), List.map_map]
  rfl
theorem ev_lsortkI (h : a σ st = some (.ok (.loc l) s1)) (hl : s1[l]? = some (dctI xs)) (hn : xs.length ≤ 1000000) : lSortK a σ st = some (.ok ((sortN xs).map dN) s1) := by
  unfold lSortK
  rw [bnd_ok h]
  refine look_ok ?_
  unfold dctOf
  dsimp only
  rw [hl]
  unfold dctI
  dsimp only
  rw [List.map_map]
  exact v_sort hn
end
/-- [e for x in xs]: each an object of its own -/
theorem compO_go {α : Type} {f : α → D} {G : G} {e : E} {σ : Mi.Env} (s : α → Mi.Env) (q : α → O) : ∀ (xs : List α) (st : Store), (∀ x ∈ xs, G (f x) σ = some (s x)) → (∀ x ∈ xs, ∀ st : Store, e (s x) st = some (.ok (.loc st.length) (st ++ [q x]))) →
    compFix G tYes e σ (xs.map f) st = some (.ok ((List.range' st.length xs.length).map D.loc) (st ++ xs.map q))
  | [], st, _, _ => by rw [List.map_nil, List.map_nil, List.append_nil]; rfl
  | x :: xs, st, h1, h2 => by
    have ih := compO_go s q xs (st ++ [q x]) (fun y hy => h1 y (.tail _ hy)) (fun y hy => h2 y (.tail _ hy))
    rw [List.map_cons]
    unfold compFix
    rw [h1 x (.head _)]
    dsimp only
    rw [bndN_ok (show tYes (s x) st = some (.ok true st) from rfl), if_pos rfl, bndN_ok (h2 x (.head _) st), bndN_ok ih]
    rw [List.length_cons, List.range'_succ, List.map_cons, List.map_cons, List.length_append, List.append_assoc]
    rfl
theorem ev_compO {α : Type} {f : α → D} {s : I} {G : G} {e : E} {vs : List Nat} {xs : List α} {σ : Mi.Env} {st s1 : Store} {sg : α → Mi.Env} (q : α → O) (h : s σ st = some (.ok (.fix (xs.map f)) s1)) (h1 : ∀ x ∈ xs, G (f x) (Mi.wipe σ vs) = some (sg x)) (h2 : ∀ x ∈ xs, ∀ st : Store, e (sg x) st = some (.ok (.loc st.length) (st ++ [q x])))
    (hl : xs.length ≤ 1000000) : lComp s G tYes e vs σ st = some (.ok ((List.range' s1.length xs.length).map D.loc) (s1 ++ xs.map q)) := by
  unfold lComp
  rw [bnd_ok h]
  dsimp only
  rw [bnd_ok (compO_go sg q xs s1 h1 h2), if_pos]
  · rfl
  · refine okLen_of _ ?_
    rw [List.length_map, List.length_range']
    exact hl
end Mi
end
set_option Elab.async false
set_option linter.all false
set_option autoImplicit false
set_option maxRecDepth 100000
/-! Mi: whoever is found from somebody: a list that grows, its closure. Plain Lean. -/
noncomputable section
namespace Mi
/-- the list grows by the neighbours of whom it holds, in turn -/
def spread (nb : Nat → List Nat) : Nat → Nat → List Nat → Option (List Nat)
  | 0, _, _ => none
  | n + 1, a, fd => if a < fd.length then spread nb n (a + 1) (fd ++ (nb (fd.getD a 0)).filter (fun x => decide (x ∉ fd))) else some fd
theorem getD_in {fd : List Nat} {a : Nat} (h : a < fd.length) : fd.getD a 0 ∈ fd := by
  rw [List.getD_eq_getElem?_getD, List.getElem?_eq_getElem h]
  exact List.getElem_mem h
theorem getD_app {fd gs : List Nat} {i : Nat} (h : i < fd.length) : (fd ++ gs).getD i 0 = fd.getD i 0 := by
  rw [List.getD_eq_getElem?_getD, List.getD_eq_getElem?_getD, List.getElem?_append_left h]
/-- what comes of it holds all of the start, and is closed -/
theorem spread_closed {nb : Nat → List Nat} : ∀ (n a : Nat) (fd r : List Nat), spread nb n a fd = some r → a ≤ fd.length → (∀ i < a, ∀ y ∈ nb (fd.getD i 0), y ∈ fd) → (∀ x ∈ fd, x ∈ r) ∧ ∀ x ∈ r, ∀ y ∈ nb x, y ∈ r
  | 0, _, _, _, h, _, _ => nomatch h
  | n + 1, a, fd, r, h, hl, hc => by
    unfold spread at h
    by_cases ha : a < fd.length
    · rw [if_pos ha] at h
      obtain ⟨h1, h2⟩ := spread_closed n (a + 1) _ r h (by rw [List.length_append]; omega) (fun i hi y hy => by
        rcases Nat.lt_or_ge i a with q | q
        · rw [getD_app (by omega)] at hy
          exact List.mem_append_left _ (hc i q y hy)
        · have e : i = a := by omega
          subst e
          rw [getD_app ha] at hy
          by_cases hf : y ∈ fd
          · exact List.mem_append_left _ hf
          · exact List.mem_append_right _ (List.mem_filter.mpr ⟨hy, decide_eq_true hf⟩))
      exact ⟨fun x hx => h1 x (List.mem_append_left _ hx), h2⟩
    · rw [if_neg ha] at h
      cases h
      refine ⟨fun _ hx => hx, fun x hx y hy => ?_⟩
      obtain ⟨i, hi, e⟩ := List.getElem_of_mem hx
      refine hc i (by omega) y ?_
      rw [List.getD_eq_getElem?_getD, List.getElem?_eq_getElem hi]
      show y ∈ nb fd[i]
      rw [e]; exact hy
/-- and is the least such -/
theorem spread_least {nb : Nat → List Nat} {C : Nat → Prop} (hC : ∀ x, C x → ∀ y ∈ nb x, C y) : ∀ (n a : Nat) (fd r : List Nat), spread nb n a fd = some r → (∀ x ∈ fd, C x) → ∀ x ∈ r, C x
  | 0, _, _, _, h, _ => nomatch h
  | n + 1, a, fd, r, h, hs => by
    unfold spread at h
    by_cases ha : a < fd.length
    · rw [if_pos ha] at h
      refine spread_least hC n (a + 1) _ r h fun x hx => ?_
      rcases List.mem_append.mp hx with q | q
      · exact hs x q
      · exact hC _ (hs _ (getD_in ha)) x (List.mem_filter.mp q).1
    · rw [if_neg ha] at h
      cases h
      exact hs
theorem spread_nodup {nb : Nat → List Nat} (hn : ∀ i, (nb i).Nodup) : ∀ (n a : Nat) (fd r : List Nat), spread nb n a fd = some r → fd.Nodup → r.Nodup
  | 0, _, _, _, h, _ => nomatch h
  | n + 1, a, fd, r, h, hd => by
    unfold spread at h
    by_cases ha : a < fd.length
    · rw [if_pos ha] at h
      refine spread_nodup hn n (a + 1) _ r h (List.nodup_append.mpr ⟨hd, (hn _).sublist List.filter_sublist, fun x hx y hy e => ?_⟩)
      subst e
      exact (of_decide_eq_true (List.mem_filter.mp hy).2) hx
    · rw [if_neg ha] at h
      cases h
      exact hd
/-- it comes to an end: all within m -/
theorem spread_some {m : Nat} {nb : Nat → List Nat} (hn : ∀ i, (nb i).Nodup) (hlt : ∀ i < m, ∀ x ∈ nb i, x < m) : ∀ (n a : Nat) (fd : List Nat), fd.Nodup → (∀ x ∈ fd, x < m) → a ≤ fd.length → m + 1 ≤ n + a → ∃ r, spread nb n a fd = some r
  | 0, a, fd, h1, h2, h3, h4 => by
    have := nodup_le (ys := List.range m) h1 fun x hx => List.mem_range.mpr (h2 x hx)
    rw [List.length_range] at this
    omega
  | n + 1, a, fd, h1, h2, h3, h4 => by
    unfold spread
    by_cases ha : a < fd.length
    · rw [if_pos ha]
      refine spread_some hn hlt n (a + 1) _ (List.nodup_append.mpr ⟨h1, (hn _).sublist List.filter_sublist, fun x hx y hy e => ?_⟩) (fun x hx => ?_) (by rw [List.length_append]; omega) (by omega)
      · subst e
        exact (of_decide_eq_true (List.mem_filter.mp hy).2) hx
      · rcases List.mem_append.mp hx with q | q
        · exact h2 x q
        · exact hlt _ (h2 _ (getD_in ha)) x (List.mem_filter.mp q).1
    · rw [if_neg ha]
      exact ⟨fd, rfl⟩
end Mi
end
set_option Elab.async false
set_option linter.all false
set_option autoImplicit false
set_option maxRecDepth 100000
set_option maxHeartbeats 1000000
/-! Webs, whom somebody finds, shows: plain Lean. -/
noncomputable section
namespace Ww
open Mi
def asc (xs : List Nat) : Bool := (xs.zip (xs.drop 1)).all fun p => decide (p.1 < p.2)
structure Web (w : List (List Nat)) : Prop where
  lo : 1 ≤ w.length
  hi : w.length ≤ 9
  pk : ∀ p ∈ w, asc p = true ∧ p.length ≤ 9 ∧ ∀ x ∈ p, x < w.length
  own : ∀ (i : Nat) (p : List Nat), w[i]? = some p → i ∉ p
abbrev nbr (w : List (List Nat)) (i : Nat) : List Nat := w.getD i default
theorem Web.pl {w : List (List Nat)} (hw : Web w) (u : Nat) : (w.getD u default).length ≤ 9 := by
  rw [List.getD_eq_getElem?_getD]
  cases h : w[u]? with
  | none => show ([] : List Nat).length ≤ 9; decide
  | some p => exact (hw.pk p (List.mem_of_getElem? h)).2.1
theorem Web.lt {w : List (List Nat)} (hw : Web w) {u x : Nat} (h : x ∈ w.getD u default) : x < w.length := by
  rw [List.getD_eq_getElem?_getD] at h
  cases q : w[u]? with
  | none => rw [q] at h; exact nomatch h
  | some p => rw [q] at h; exact (hw.pk p (List.mem_of_getElem? q)).2.2 x h
theorem Web.lt1 {w : List (List Nat)} {u x : Nat} (h : x ∈ nbr w u) : u < w.length := by
  have h : x ∈ w.getD u default := h
  rw [List.getD_eq_getElem?_getD] at h
  cases q : w[u]? with
  | none => rw [q] at h; exact nomatch h
  | some p => exact (List.getElem?_eq_some_iff.mp q).1
theorem Web.ne {w : List (List Nat)} (hw : Web w) {u x : Nat} (h : x ∈ nbr w u) : u ≠ x := by
  intro e
  subst e
  have h : u ∈ w.getD u default := h
  rw [List.getD_eq_getElem?_getD] at h
  cases q : w[u]? with
  | none => rw [q] at h; exact nomatch h
  | some p => rw [q] at h; exact hw.own u p q h
theorem asc_cons (x y : Nat) (ys : List Nat) : asc (x :: y :: ys) = (decide (x < y) && asc (y :: ys)) := by
  unfold asc
  simp
theorem asc_of : ∀ {xs : List Nat}, xs.Pairwise (· < ·) → asc xs = true
  | [], _ => rfl
  | [_], _ => rfl
  | x :: y :: ys, h => by
    rw [List.pairwise_cons] at h
    rw [asc_cons, asc_of h.2]
    simp [h.1 y (.head _)]
theorem asc_pw : ∀ {xs : List Nat}, asc xs = true → xs.Pairwise (· < ·)
  | [], _ => .nil
  | [_], _ => List.pairwise_singleton ..
  | x :: y :: ys, h => by
    rw [asc_cons, Bool.and_eq_true] at h
    have h1 := of_decide_eq_true h.1
    have h2 := asc_pw h.2
    rw [List.pairwise_cons]
    refine ⟨fun z hz => ?_, h2⟩
    rcases List.mem_cons.mp hz with rfl | hz
    · exact h1
    · have := (List.pairwise_cons.mp h2).1 z hz
      omega
theorem Web.nds {w : List (List Nat)} (hw : Web w) : ∀ p ∈ w, p.Nodup := fun p hp => (asc_pw (hw.pk p hp).1).imp fun h => Nat.ne_of_lt h
theorem nbr_at {w : List (List Nat)} {i : Nat} (h : i < w.length) : nbr w i = w[i] := by
  show w.getD i default = _
  rw [List.getD_eq_getElem?_getD, List.getElem?_eq_getElem h]; rfl
theorem Web.pw {w : List (List Nat)} (hw : Web w) (i : Nat) : (nbr w i).Pairwise (· < ·) := by
  by_cases h : i < w.length
  · rw [nbr_at h]; exact asc_pw (hw.pk _ (List.getElem_mem _)).1
  · show (w.getD i default).Pairwise _
    rw [List.getD_eq_getElem?_getD, List.getElem?_eq_none (by omega)]
    exact .nil
theorem Web.nd {w : List (List Nat)} (hw : Web w) (i : Nat) : (nbr w i).Nodup := (hw.pw i).imp fun h => Nat.ne_of_lt h
theorem web_ext {w v : List (List Nat)} (hw : Web w) (hv : Web v) (hl : w.length = v.length) (h : ∀ p < w.length, ∀ y, y ∈ nbr w p ↔ y ∈ nbr v p) : w = v := by
  apply List.ext_getElem hl
  intro i h1 h2
  rw [← nbr_at h1, ← nbr_at h2]
  exact asc_uniq (hw.pw i) (hv.pw i) (h i h1)
/-- a web by its rows -/
def rows (n : Nat) (R : Nat → Nat → Bool) : List (List Nat) := (List.range n).map fun p => (List.range n).filter fun y => R p y
theorem rows_len (n : Nat) (R : Nat → Nat → Bool) : (rows n R).length = n := by
  unfold rows; rw [List.length_map, List.length_range]
theorem rows_nbr {n : Nat} {R : Nat → Nat → Bool} {p : Nat} (hp : p < n) : nbr (rows n R) p = (List.range n).filter fun y => R p y := by
  show (rows n R).getD p default = _
  unfold rows
  rw [List.getD_eq_getElem?_getD, List.getElem?_map, List.getElem?_range hp]
  rfl
theorem mem_rows {n : Nat} {R : Nat → Nat → Bool} {p y : Nat} (hp : p < n) : y ∈ nbr (rows n R) p ↔ y < n ∧ R p y = true := by
  rw [rows_nbr hp, List.mem_filter, List.mem_range]
theorem rows_web {n : Nat} {R : Nat → Nat → Bool} (h1 : 1 ≤ n) (h9 : n ≤ 9) (hs : ∀ p, R p p = false) : Web (rows n R) := by
  refine ⟨by rw [rows_len]; exact h1, by rw [rows_len]; exact h9, fun p hp => ?_, fun i p hp => ?_⟩
  · unfold rows at hp
    obtain ⟨i, hi, rfl⟩ := List.mem_map.mp hp
    refine ⟨asc_of ((range_lt n).sublist List.filter_sublist), Nat.le_trans (List.length_filter_le ..) (by rw [List.length_range]; exact h9), fun x hx => ?_⟩
    rw [rows_len]
    exact List.mem_range.mp (List.mem_filter.mp hx).1
  · have hi : i < n := by
      have := (List.getElem?_eq_some_iff.mp hp).1
      rwa [rows_len] at this
    have e : p = nbr (rows n R) i := by
      show p = (rows n R).getD i default
      rw [List.getD_eq_getElem?_getD, hp]; rfl
    rw [e, mem_rows hi, hs i]
    exact fun h => Bool.false_ne_true h.2
/-! ### whom somebody finds -/
inductive Rch (w : List (List Nat)) (p : Nat) : Nat → Prop where
  | refl : Rch w p p
  | tail {x y : Nat} : Rch w p x → y ∈ nbr w x → Rch w p y
theorem Rch.trans {w : List (List Nat)} {p x y : Nat} (h1 : Rch w p x) (h2 : Rch w x y) : Rch w p y := by
  induction h2 with
  | refl => exact h1
  | tail _ h ih => exact .tail ih h
theorem Rch.lt {w : List (List Nat)} (hw : Web w) {p y : Nat} (hp : p < w.length) (h : Rch w p y) : y < w.length := by
  cases h with
  | refl => exact hp
  | tail _ h => exact hw.lt h
def reach (w : List (List Nat)) (p : Nat) : List Nat := (spread (nbr w) 100 0 [p]).getD []
theorem reach_some {w : List (List Nat)} (hw : Web w) {p : Nat} (hp : p < w.length) : spread (nbr w) 100 0 [p] = some (reach w p) := by
  obtain ⟨r, e⟩ := spread_some (m := w.length) hw.nd (fun i _ x hx => hw.lt hx) 100 0 [p] (by simp) (by simpa using hp) (Nat.zero_le _) (by have := hw.hi; omega)
  unfold reach
  rw [e]; rfl
theorem reach_lt {w : List (List Nat)} (hw : Web w) {p : Nat} (hp : p < w.length) : ∀ x ∈ reach w p, x < w.length :=
  spread_least (C := fun x => x < w.length) (fun x _ y hy => hw.lt hy) 100 0 [p] _ (reach_some hw hp) (by simpa using hp)
theorem reach_nd {w : List (List Nat)} (hw : Web w) {p : Nat} (hp : p < w.length) : (reach w p).Nodup := spread_nodup hw.nd 100 0 [p] _ (reach_some hw hp) (by simp)
theorem reach_len {w : List (List Nat)} (hw : Web w) {p : Nat} (hp : p < w.length) : (reach w p).length ≤ 9 := by
  have h2 := nodup_le (ys := List.range w.length) (reach_nd hw hp) fun x hx => List.mem_range.mpr (reach_lt hw hp x hx)
  rw [List.length_range] at h2
  exact Nat.le_trans h2 hw.hi
theorem reach_iff {w : List (List Nat)} (hw : Web w) {p : Nat} (hp : p < w.length) {y : Nat} : y ∈ reach w p ↔ Rch w p y := by
  constructor
  · exact spread_least (C := Rch w p) (fun x hx y hy => .tail hx hy) 100 0 [p] _ (reach_some hw hp) (fun x hx => by simp at hx; subst hx; exact .refl) y
  · obtain ⟨c1, c2⟩ := spread_closed (nb := nbr w) 100 0 [p] _ (reach_some hw hp) (Nat.zero_le _) (fun i hi => absurd hi (Nat.not_lt_zero _))
    intro h
    induction h with
    | refl => exact c1 p (by simp)
    | tail _ h ih => exact c2 _ ih _ h
def finds (w : List (List Nat)) : List (List Nat) := (List.range w.length).map fun p => sortN (reach w p)
theorem finds_len (w : List (List Nat)) : (finds w).length = w.length := by unfold finds; rw [List.length_map, List.length_range]
theorem finds_nbr {w : List (List Nat)} {p : Nat} (hp : p < w.length) : nbr (finds w) p = sortN (reach w p) := by
  show (finds w).getD p default = _
  unfold finds
  rw [List.getD_eq_getElem?_getD, List.getElem?_map, List.getElem?_range hp]
  rfl
theorem mem_finds {w : List (List Nat)} (hw : Web w) {p y : Nat} : y ∈ nbr (finds w) p ↔ p < w.length ∧ Rch w p y := by
  by_cases hp : p < w.length
  · rw [finds_nbr hp, mem_sortN, reach_iff hw hp]
    exact ⟨fun h => ⟨hp, h⟩, fun h => h.2⟩
  · constructor
    · intro h
      have := Web.lt1 h
      rw [finds_len] at this
      exact absurd this hp
    · exact fun h => absurd h.1 hp
theorem finds_row {w : List (List Nat)} (hw : Web w) {p : Nat} (hp : p < w.length) {r : List Nat} (hn : r.Nodup) (h : ∀ y, y ∈ r ↔ Rch w p y) : sortN r = nbr (finds w) p := by
  rw [finds_nbr hp]
  exact asc_uniq (sortN_lt hn) (sortN_lt (reach_nd hw hp)) fun y => by rw [mem_sortN, mem_sortN, h, reach_iff hw hp]
theorem finds_eq {w v : List (List Nat)} (hw : Web w) (hv : Web v) (hl : w.length = v.length) : finds w = finds v ↔ ∀ p < w.length, ∀ y, Rch w p y ↔ Rch v p y := by
  constructor
  · intro e p hp y
    have h1 := mem_finds hw (p := p) (y := y)
    have h2 := mem_finds hv (p := p) (y := y)
    rw [e] at h1
    constructor
    · intro h; exact (h2.mp (h1.mpr ⟨hp, h⟩)).2
    · intro h; exact (h1.mp (h2.mpr ⟨hl ▸ hp, h⟩)).2
  · intro h
    apply List.ext_getElem (by rw [finds_len, finds_len, hl])
    intro i h1 h2
    rw [← nbr_at h1, ← nbr_at h2]
    rw [finds_len] at h1 h2
    rw [← finds_row hv h2 (reach_nd hw h1) fun y => by rw [reach_iff hw h1, h i h1], finds_nbr h1]
/-! ### shows -/
inductive Cl (w fd : List (List Nat)) : Nat → Nat → Prop where
  | base {p y : Nat} : y ∈ nbr w p → Cl w fd p y
  | own {u v : Nat} : Cl w fd u v → u ∈ nbr fd v → u ≠ v → Cl w fd v u
  | step {u v x : Nat} : Cl w fd u v → Cl w fd u x → x ≠ v → x ∈ nbr fd v → Cl w fd v x
theorem Cl.ne {w fd : List (List Nat)} (hw : Web w) {p y : Nat} (h : Cl w fd p y) : p ≠ y := by
  induction h with
  | base h => exact hw.ne h
  | own _ _ h _ => exact fun e => h e.symm
  | step _ _ h _ _ _ => exact fun e => h e.symm
theorem Cl.lt {w fd : List (List Nat)} (hw : Web w) {p y : Nat} (h : Cl w fd p y) : p < w.length ∧ y < w.length := by
  induction h with
  | base h => exact ⟨Web.lt1 h, hw.lt h⟩
  | own _ _ _ ih => exact ⟨ih.2, ih.1⟩
  | step _ _ _ _ i1 i2 => exact ⟨i1.2, i2.2⟩
instance clDec (w fd : List (List Nat)) (p y : Nat) : Decidable (Cl w fd p y) := Classical.propDecidable _
def clo (w fd : List (List Nat)) : List (List Nat) := rows w.length fun p y => decide (Cl w fd p y)
theorem clo_len (w fd : List (List Nat)) : (clo w fd).length = w.length := rows_len ..
theorem mem_clo {w fd : List (List Nat)} (hw : Web w) {p y : Nat} : y ∈ nbr (clo w fd) p ↔ Cl w fd p y := by
  constructor
  · intro h
    have hp := Web.lt1 h
    rw [clo_len] at hp
    exact of_decide_eq_true ((mem_rows hp).mp h).2
  · intro h
    obtain ⟨h1, h2⟩ := h.lt hw
    exact (mem_rows h1).mpr ⟨h2, decide_eq_true h⟩
theorem clo_web {w fd : List (List Nat)} (hw : Web w) : Web (clo w fd) := rows_web hw.lo hw.hi fun p => decide_eq_false fun h => h.ne hw rfl
/-- no show is left -/
def Shut (F fd : List (List Nat)) : Prop := ∀ u v x, v ∈ nbr F u → (x = u ∨ x ∈ nbr F u) → x ≠ v → x ∈ nbr fd v → x ∈ nbr F v
theorem clo_of {w fd F : List (List Nat)} (hw : Web w) (hF : Web F) (hl : F.length = w.length) (h1 : ∀ p y, y ∈ nbr w p → y ∈ nbr F p) (h2 : ∀ p y, y ∈ nbr F p → Cl w fd p y) (h3 : Shut F fd) : F = clo w fd := by
  have key : ∀ {p y}, Cl w fd p y → y ∈ nbr F p := fun h => by
    induction h with
    | base h => exact h1 _ _ h
    | own _ a b ih => exact h3 _ _ _ ih (.inl rfl) b a
    | step _ _ a b i1 i2 => exact h3 _ _ _ i1 (.inr i2) a b
  refine web_ext hF (clo_web hw) (by rw [clo_len, hl]) fun p _ y => ?_
  rw [mem_clo hw]
  exact ⟨h2 p y, key⟩
theorem Cl.idem {w v fd : List (List Nat)} (h : ∀ p y, y ∈ nbr v p → Cl w fd p y) {p y : Nat} (hc : Cl v fd p y) : Cl w fd p y := by
  induction hc with
  | base a => exact h _ _ a
  | own _ a b ih => exact .own ih a b
  | step _ _ a b i1 i2 => exact .step i1 i2 a b
theorem Cl.rch {w : List (List Nat)} (hw : Web w) {p y : Nat} (h : Cl w (finds w) p y) : Rch w p y := by
  cases h with
  | base h => exact .tail .refl h
  | own _ h _ => exact ((mem_finds hw).mp h).2
  | step _ _ _ h => exact ((mem_finds hw).mp h).2
theorem finds_clo {w : List (List Nat)} (hw : Web w) : finds (clo w (finds w)) = finds w := by
  refine (finds_eq (clo_web hw) hw (clo_len ..)).mpr fun p hp y => ⟨fun h => ?_, fun h => ?_⟩
  · induction h with
    | refl => exact .refl
    | tail _ h ih => exact ih.trans (((mem_clo hw).mp h).rch hw)
  · induction h with
    | refl => exact .refl
    | tail _ h ih => exact .tail ih ((mem_clo hw).mpr (.base h))
theorem kin_iff {a b : List (List Nat)} (ha : Web a) (hb : Web b) (hl : a.length = b.length) : clo a (finds a) = clo b (finds b) ↔ finds a = finds b ∧ (∀ p y, y ∈ nbr b p → Cl a (finds b) p y) ∧ ∀ p y, y ∈ nbr a p → Cl b (finds a) p y := by
  constructor
  · intro e
    have hf : finds a = finds b := by rw [← finds_clo ha, e, finds_clo hb]
    refine ⟨hf, fun p y h => ?_, fun p y h => ?_⟩
    · rw [← hf, ← mem_clo ha, e, mem_clo hb]; exact .base h
    · rw [hf, ← mem_clo hb, ← e, mem_clo ha]; exact .base h
  · rintro ⟨hf, h1, h2⟩
    refine web_ext (clo_web ha) (clo_web hb) (by rw [clo_len, clo_len, hl]) fun p _ y => ?_
    rw [mem_clo ha, mem_clo hb]
    rw [← hf] at h1 ⊢
    exact ⟨fun h => h.idem h2, fun h => h.idem h1⟩
theorem web_set {w : List (List Nat)} (hw : Web w) {i y : Nat} (hi : i < w.length) (hy : y < w.length) (hne : i ≠ y) (hno : y ∉ nbr w i) : Web (w.set i (sortN (nbr w i ++ [y]))) ∧ (w.set i (sortN (nbr w i ++ [y]))).length = w.length ∧ ∀ x < w.length, ∀ z ∈ nbr w x, z ∈ nbr (w.set i (sortN (nbr w i ++ [y]))) x := by
  have hnd : (nbr w i ++ [y]).Nodup := List.nodup_append.mpr ⟨hw.nd i, by simp, fun a ha b hb e => hno (by simp at hb; rw [← hb, ← e]; exact ha)⟩
  have hlt : ∀ x ∈ sortN (nbr w i ++ [y]), x < w.length := fun x hx => by
    rcases List.mem_append.mp (mem_sortN.mp hx) with q | q
    · exact hw.lt q
    · simp at q; omega
  refine ⟨⟨by rw [List.length_set]; exact hw.lo, by rw [List.length_set]; exact hw.hi, fun p hp => ?_, fun j p hj => ?_⟩, List.length_set .., fun x hx z hz => ?_⟩
  · rw [List.length_set]
    rcases List.mem_or_eq_of_mem_set hp with q | rfl
    · exact hw.pk p q
    · refine ⟨asc_of (sortN_lt hnd), ?_, hlt⟩
      have := nodup_le (xs := sortN (nbr w i ++ [y])) (ys := List.range w.length) ((sortN_perm _).nodup_iff.mpr hnd) fun x hx => List.mem_range.mpr (hlt x hx)
      rw [List.length_range] at this
      exact Nat.le_trans this hw.hi
  · by_cases q : i = j
    · subst q
      rw [List.getElem?_set_self hi] at hj
      cases hj
      intro hx
      rcases List.mem_append.mp (mem_sortN.mp hx) with q | q
      · have hv2 : i ∈ w[i] := by
          have : nbr w i = w[i] := by show w.getD _ default = _; rw [List.getD_eq_getElem?_getD, List.getElem?_eq_getElem hi]; rfl
          rwa [this] at q
        exact hw.own i w[i] (List.getElem?_eq_getElem hi) hv2
      · simp at q; omega
    · rw [List.getElem?_set_ne q] at hj
      exact hw.own j p hj
  · show z ∈ (w.set i (sortN (nbr w i ++ [y]))).getD x default
    rw [List.getD_eq_getElem?_getD]
    by_cases q : i = x
    · subst q
      rw [List.getElem?_set_self hi]
      exact mem_sortN.mpr (List.mem_append_left _ hz)
    · rw [List.getElem?_set_ne q, ← List.getD_eq_getElem?_getD]
      exact hz
theorem set_split {α : Type} {xs : List α} {i : Nat} {y : α} (h : i < xs.length) : xs.set i y = (xs.take i ++ [y]) ++ xs.drop (i + 1) := by
  rw [List.set_eq_take_append_cons_drop, if_pos h]; simp
/-- how many cards -/
def cnt (w : List (List Nat)) : Nat := (w.map List.length).sum
theorem sum_set : ∀ (xs : List Nat) (i k : Nat), (h : i < xs.length) → (xs.set i k).sum + xs[i] = xs.sum + k
  | x :: xs, 0, k, _ => by simp; omega
  | x :: xs, i + 1, k, h => by
    have := sum_set xs i k (by simpa using h)
    simp only [List.set_cons_succ, List.sum_cons, List.getElem_cons_succ]
    omega
theorem cnt_set {w : List (List Nat)} {i y : Nat} (hi : i < w.length) : cnt (w.set i (sortN (nbr w i ++ [y]))) = cnt w + 1 := by
  unfold cnt
  rw [List.map_set]
  have h := sum_set (w.map List.length) i (sortN (nbr w i ++ [y])).length (by rw [List.length_map]; exact hi)
  rw [sortN_len, List.length_append, List.getElem_map, nbr_at hi] at h
  rw [sortN_len, List.length_append, nbr_at hi]
  simp only [List.length_cons, List.length_nil] at h ⊢
  omega
theorem sum_le : ∀ {xs : List Nat} {m : Nat}, (∀ x ∈ xs, x ≤ m) → xs.sum ≤ xs.length * m
  | [], _, _ => Nat.zero_le _
  | x :: xs, m, h => by
    rw [List.sum_cons, List.length_cons, Nat.succ_mul]
    have h1 := h x (.head _)
    have h2 := sum_le (xs := xs) fun y hy => h y (.tail _ hy)
    omega
theorem cnt_le {w : List (List Nat)} (hw : Web w) : cnt w ≤ 81 := by
  have h := sum_le (xs := w.map List.length) (m := 9) fun x hx => by
    obtain ⟨p, hp, rfl⟩ := List.mem_map.mp hx
    exact (hw.pk p hp).2.1
  rw [List.length_map] at h
  have := Nat.mul_le_mul_right 9 hw.hi
  unfold cnt
  omega
/-- the cards -/
def pairs (w : List (List Nat)) : List (Nat × Nat) := w.zipIdx.flatMap fun q => q.1.map fun y => (q.2, y)
theorem mem_pairs {w : List (List Nat)} {p y : Nat} : (p, y) ∈ pairs w ↔ y ∈ nbr w p := by
  unfold pairs
  rw [List.mem_flatMap]
  constructor
  · rintro ⟨⟨r, i⟩, hr, h⟩
    obtain ⟨z, hz, e⟩ := List.mem_map.mp h
    cases e
    have h2 := List.mem_zipIdx_iff_getElem?.mp hr
    show y ∈ w.getD i default
    rw [List.getD_eq_getElem?_getD, h2]
    exact hz
  · intro h
    have hp := Web.lt1 h
    refine ⟨(w[p], p), List.mem_zipIdx_iff_getElem?.mpr (List.getElem?_eq_getElem hp), List.mem_map.mpr ⟨y, ?_, rfl⟩⟩
    rwa [nbr_at hp] at h
def within (w fd : List (List Nat)) : Bool := (pairs w).all fun z => decide (z.2 ∈ nbr fd z.1)
theorem within_iff {w fd : List (List Nat)} : within w fd = true ↔ ∀ p y, y ∈ nbr w p → y ∈ nbr fd p := by
  unfold within
  rw [List.all_eq_true]
  constructor
  · intro h p y hy
    exact of_decide_eq_true (h (p, y) (mem_pairs.mpr hy))
  · rintro h ⟨p, y⟩ hz
    exact decide_eq_true (h p y (mem_pairs.mp hz))
theorem within_self {w : List (List Nat)} (hw : Web w) : within w (finds w) = true := within_iff.mpr fun p y h => (mem_finds hw).mpr ⟨Web.lt1 h, .tail .refl h⟩
/-- the full web -/
def full (w v : List (List Nat)) : Option (List (List Nat)) := if within w (finds v) = true then some (clo w (finds v)) else none
theorem full_self {w : List (List Nat)} (hw : Web w) : full w w = some (clo w (finds w)) := if_pos (within_self hw)
theorem within_finds {w v : List (List Nat)} (hw : Web w) (hv : Web v) (hl : v.length = w.length) : within w (finds v) = true ↔ ∀ u y, y ∈ nbr (finds w) u → y ∈ nbr (finds v) u := by
  rw [within_iff]
  constructor
  · intro h u y hy
    obtain ⟨h1, h2⟩ := (mem_finds hw).mp hy
    refine (mem_finds hv).mpr ⟨by omega, ?_⟩
    induction h2 with
    | refl => exact .refl
    | tail hr hx ih => exact (ih ((mem_finds hw).mpr ⟨h1, hr⟩)).trans ((mem_finds hv).mp (h _ _ hx)).2
  · intro h p y hy
    exact h p y ((mem_finds hw).mpr ⟨Web.lt1 hy, .tail .refl hy⟩)
/-- the least card of one that is not in the other -/
def leastCard (a b : List (List Nat)) : Option (Nat × Nat) := (List.range a.length).findSome? fun u => ((nbr a u).find? fun x => !decide (x ∈ nbr b u)).map fun x => (u, x)
theorem leastCard_none {a b : List (List Nat)} : leastCard a b = none ↔ ∀ u y, y ∈ nbr a u → y ∈ nbr b u := by
  unfold leastCard
  rw [List.findSome?_eq_none_iff]
  constructor
  · intro h u y hy
    have h1 := h u (List.mem_range.mpr (Web.lt1 hy))
    rw [Option.map_eq_none_iff, List.find?_eq_none] at h1
    have := h1 y hy
    simpa using this
  · intro h u _
    rw [Option.map_eq_none_iff, List.find?_eq_none]
    intro y hy
    simpa using h u y hy
def lackOf (w v : List (List Nat)) : Option (Bool × Nat × Nat) := match leastCard (finds w) (finds v) with
  | some z => some (true, z)
  | none => match leastCard v (clo w (finds v)) with
    | some z => some (false, z)
    | none => none
theorem lackOf_none {w v : List (List Nat)} (hw : Web w) : lackOf w v = none ↔ (∀ u y, y ∈ nbr (finds w) u → y ∈ nbr (finds v) u) ∧ ∀ u y, y ∈ nbr v u → Cl w (finds v) u y := by
  unfold lackOf
  cases h : leastCard (finds w) (finds v) with
  | some z =>
    constructor
    · intro h; exact nomatch h
    · rintro ⟨h1, _⟩
      rw [leastCard_none.mpr h1] at h
      exact nomatch h
  | none =>
    have h1 := leastCard_none.mp h
    dsimp only
    cases h2 : leastCard v (clo w (finds v)) with
    | some z =>
      constructor
      · intro h; exact nomatch h
      · rintro ⟨_, h3⟩
        rw [leastCard_none.mpr fun u y hy => (mem_clo hw).mpr (h3 u y hy)] at h2
        exact nomatch h2
    | none => exact ⟨fun _ => ⟨h1, fun u y hy => (mem_clo hw).mp (leastCard_none.mp h2 u y hy)⟩, fun _ => rfl⟩
end Ww
end
set_option Elab.async false
set_option linter.all false
set_option autoImplicit false
set_option maxRecDepth 100000
set_option maxHeartbeats 1000000
/-! Knots, how few cards keep all found: plain Lean. -/
noncomputable section
namespace Ww
open Mi
/-! ### cards of a web, a web of cards -/
def webOf (n : Nat) (cs : List (Nat × Nat)) : List (List Nat) := rows n fun u w => decide ((u, w) ∈ cs)
theorem webOf_len (n : Nat) (cs : List (Nat × Nat)) : (webOf n cs).length = n := rows_len ..
theorem mem_webOf {n : Nat} {cs : List (Nat × Nat)} {p y : Nat} (hp : p < n) : y ∈ nbr (webOf n cs) p ↔ y < n ∧ (p, y) ∈ cs := by
  unfold webOf
  rw [mem_rows hp, decide_eq_true_eq]
theorem webOf_web {n : Nat} {cs : List (Nat × Nat)} (h1 : 1 ≤ n) (h9 : n ≤ 9) (hs : ∀ p, (p, p) ∉ cs) : Web (webOf n cs) := rows_web h1 h9 fun p => decide_eq_false (hs p)
def crow (w : List (List Nat)) (u : Nat) : List (Nat × Nat) := (nbr w u).map fun x => (u, x)
def cardsOf (w : List (List Nat)) : List (Nat × Nat) := (List.range w.length).flatMap (crow w)
theorem mem_cards {w : List (List Nat)} {a b : Nat} : (a, b) ∈ cardsOf w ↔ b ∈ nbr w a := by
  unfold cardsOf
  rw [List.mem_flatMap]
  constructor
  · rintro ⟨c, hc, h⟩
    obtain ⟨d, hd, e⟩ := List.mem_map.mp h
    cases e
    exact hd
  · intro h
    exact ⟨a, List.mem_range.mpr (Web.lt1 h), List.mem_map.mpr ⟨b, h, rfl⟩⟩
theorem cards_le {w : List (List Nat)} (hw : Web w) : (cardsOf w).length ≤ 81 := by
  have h := flat_mul (f := crow w) (m := 9) (xs := List.range w.length) fun u _ => by unfold crow; rw [List.length_map]; exact hw.pl u
  rw [List.length_range] at h
  have := Nat.mul_le_mul_right 9 hw.hi
  unfold cardsOf
  omega
theorem cards_nd {w : List (List Nat)} (hw : Web w) : (cardsOf w).Nodup := by
  unfold cardsOf
  have go : ∀ us : List Nat, us.Nodup → (us.flatMap (crow w)).Nodup := by
    intro us
    induction us with
    | nil => intro _; exact List.nodup_nil
    | cons u us ih =>
      intro h
      rw [List.nodup_cons] at h
      rw [List.flatMap_cons, List.nodup_append]
      refine ⟨?_, ih h.2, ?_⟩
      · unfold crow
        exact List.pairwise_map.mpr ((hw.nd u).imp fun h e => h (Prod.mk.inj e).2)
      · rintro ⟨a, b⟩ h1 ⟨c, d⟩ h2 e
        cases e
        obtain ⟨x, _, e1⟩ := List.mem_map.mp h1
        obtain ⟨v, hv, h2⟩ := List.mem_flatMap.mp h2
        obtain ⟨y, _, e2⟩ := List.mem_map.mp h2
        cases e1
        have : v = u := (Prod.mk.inj e2).1
        exact h.1 (this ▸ hv)
  exact go _ List.nodup_range
theorem cards_webOf_le {n : Nat} {cs : List (Nat × Nat)} (hW : Web (webOf n cs)) : (cardsOf (webOf n cs)).length ≤ cs.length :=
  nodup_le (cards_nd hW) fun ⟨a, b⟩ h => by
    have h2 := mem_cards.mp h
    have ha := Web.lt1 h2
    rw [webOf_len] at ha
    exact ((mem_webOf ha).mp h2).2
theorem perm_of {α : Type} {xs ys : List α} [DecidableEq α] (h1 : xs.Nodup) (h2 : ys.Nodup) (h : ∀ x, x ∈ xs ↔ x ∈ ys) : xs.length = ys.length :=
  ((List.perm_ext_iff_of_nodup h1 h2).mpr h).length_eq
/-! ### who is found: a preorder -/
structure Pre (n : Nat) (fd : List (List Nat)) : Prop where
  len : fd.length = n
  refl : ∀ p < n, p ∈ nbr fd p
  trans : ∀ p y z, y ∈ nbr fd p → z ∈ nbr fd y → z ∈ nbr fd p
  lt : ∀ p y, y ∈ nbr fd p → p < n ∧ y < n
  pw : ∀ p, (nbr fd p).Pairwise (· < ·)
theorem finds_pre {w : List (List Nat)} (hw : Web w) : Pre w.length (finds w) := by
  refine ⟨finds_len w, fun p hp => (mem_finds hw).mpr ⟨hp, .refl⟩, fun p y z h1 h2 => ?_, fun p y h => ?_, fun p => ?_⟩
  · obtain ⟨a1, a2⟩ := (mem_finds hw).mp h1
    obtain ⟨b1, b2⟩ := (mem_finds hw).mp h2
    exact (mem_finds hw).mpr ⟨a1, a2.trans b2⟩
  · obtain ⟨a1, a2⟩ := (mem_finds hw).mp h
    exact ⟨a1, a2.lt hw a1⟩
  · by_cases hp : p < w.length
    · rw [finds_nbr hp]; exact sortN_lt (reach_nd hw hp)
    · show ((finds w).getD p default).Pairwise _
      rw [List.getD_eq_getElem?_getD, List.getElem?_eq_none (by rw [finds_len]; omega)]
      exact .nil
/-- those who find one another -/
def cls (fd : List (List Nat)) (p : Nat) : List Nat := (nbr fd p).filter fun y => decide (p ∈ nbr fd y)
abbrev hd0 (a : List Nat) : Nat := a.getD 0 default
section
variable {n : Nat} {fd : List (List Nat)} (P : Pre n fd)
theorem mem_cls {p y : Nat} : y ∈ cls fd p ↔ y ∈ nbr fd p ∧ p ∈ nbr fd y := by
  unfold cls
  rw [List.mem_filter, decide_eq_true_eq]
include P
theorem self_cls {p : Nat} (hp : p < n) : p ∈ cls fd p := mem_cls.mpr ⟨P.refl p hp, P.refl p hp⟩
theorem cls_pw (p : Nat) : (cls fd p).Pairwise (· < ·) := (P.pw p).sublist List.filter_sublist
theorem cls_eq {p y : Nat} (h : y ∈ cls fd p) : cls fd y = cls fd p := by
  obtain ⟨h1, h2⟩ := mem_cls.mp h
  refine asc_uniq (cls_pw P y) (cls_pw P p) fun z => ?_
  rw [mem_cls, mem_cls]
  constructor
  · rintro ⟨a, b⟩; exact ⟨P.trans _ _ _ h1 a, P.trans _ _ _ b h2⟩
  · rintro ⟨a, b⟩; exact ⟨P.trans _ _ _ h2 a, P.trans _ _ _ b h1⟩
theorem hd_cls {p : Nat} (hp : p < n) : hd0 (cls fd p) ∈ cls fd p := by
  have h := self_cls P hp
  cases hc : cls fd p with
  | nil => rw [hc] at h; exact nomatch h
  | cons x xs => exact .head _
omit P in
/-- the knots, in the order of their first people -/
def knots0 (fd : List (List Nat)) (ps : List Nat) : List (List Nat) := ps.foldl (fun acc p => insN acc (cls fd p)) []
omit P in
theorem knots0_snoc (ps : List Nat) (p : Nat) : knots0 fd (ps ++ [p]) = insN (knots0 fd ps) (cls fd p) := by
  unfold knots0; rw [List.foldl_append]; rfl
omit P in
theorem knots0_facts : ∀ k, (knots0 fd (List.range k)).Nodup ∧ ∀ a, a ∈ knots0 fd (List.range k) ↔ ∃ p < k, a = cls fd p
  | 0 => ⟨List.nodup_nil, fun a => ⟨fun h => (nomatch h), fun ⟨_, h, _⟩ => absurd h (Nat.not_lt_zero _)⟩⟩
  | k + 1 => by
    obtain ⟨h1, h2⟩ := knots0_facts k
    rw [List.range_succ, knots0_snoc]
    refine ⟨nodup_insN h1, fun a => ?_⟩
    rw [mem_insN, h2]
    constructor
    · rintro (rfl | ⟨p, hp, e⟩)
      · exact ⟨k, by omega, rfl⟩
      · exact ⟨p, by omega, e⟩
    · rintro ⟨p, hp, e⟩
      by_cases q : p = k
      · subst q; exact .inl e
      · exact .inr ⟨p, by omega, e⟩
end
/-- a list of all knots -/
structure Kn (n : Nat) (fd : List (List Nat)) (K : List (List Nat)) : Prop where
  nd : K.Nodup
  mem : ∀ a, a ∈ K ↔ ∃ p < n, a = cls fd p
theorem kn_perm {n : Nat} {fd K : List (List Nat)} (h : K.Perm (knots0 fd (List.range n))) : Kn n fd K := by
  obtain ⟨h1, h2⟩ := knots0_facts (fd := fd) n
  exact ⟨h.nodup_iff.mpr h1, fun a => h.mem_iff.trans (h2 a)⟩
def btw (fd : List (List Nat)) (a c b : List Nat) : Bool := decide (c ≠ a ∧ c ≠ b) && (decide (hd0 c ∈ nbr fd (hd0 a)) && decide (hd0 b ∈ nbr fd (hd0 c)))
def nbP (fd K : List (List Nat)) (a b : List Nat) : Bool := decide (a ≠ b) && (decide (hd0 b ∈ nbr fd (hd0 a)) && decide ((K.filter fun c => btw fd a c b).length = 0))
def nbs (fd K : List (List Nat)) : List (List Nat × List Nat) := K.flatMap fun a => (K.filter fun b => nbP fd K a b).map fun b => (a, b)
def big (K : List (List Nat)) : List (List Nat) := K.filter fun k => decide (1 < k.length)
def few (fd K : List (List Nat)) : Nat := ((big K).map List.length).sum + (nbs fd K).length
section
variable {n : Nat} {fd K : List (List Nat)} (P : Pre n fd) (H : Kn n fd K)
include P H
theorem kn_hd {a : List Nat} (ha : a ∈ K) : hd0 a < n ∧ hd0 a ∈ a ∧ a = cls fd (hd0 a) := by
  obtain ⟨p, hp, rfl⟩ := (H.mem a).mp ha
  have h := hd_cls P hp
  exact ⟨(P.lt _ _ (mem_cls.mp h).1).2, h, (cls_eq P h).symm⟩
theorem kn_of {a : List Nat} (ha : a ∈ K) {x : Nat} (hx : x ∈ a) : x < n ∧ a = cls fd x := by
  obtain ⟨p, hp, rfl⟩ := (H.mem a).mp ha
  exact ⟨(P.lt _ _ (mem_cls.mp hx).1).2, (cls_eq P hx).symm⟩
theorem kn_in {x : Nat} (hx : x < n) : cls fd x ∈ K := (H.mem _).mpr ⟨x, hx, rfl⟩
/-- the order of knots goes by any of their people -/
theorem kn_le {a b : List Nat} (ha : a ∈ K) (hb : b ∈ K) {x y : Nat} (hx : x ∈ a) (hy : y ∈ b) : hd0 b ∈ nbr fd (hd0 a) ↔ y ∈ nbr fd x := by
  obtain ⟨_, h1, h2⟩ := kn_hd P H ha
  obtain ⟨_, h3, h4⟩ := kn_hd P H hb
  rw [h2] at hx
  rw [h4] at hy
  obtain ⟨a1, a2⟩ := mem_cls.mp hx
  obtain ⟨b1, b2⟩ := mem_cls.mp hy
  constructor
  · intro h; exact P.trans _ _ _ (P.trans _ _ _ a2 h) b1
  · intro h; exact P.trans _ _ _ (P.trans _ _ _ a1 h) b2
omit P in
theorem mem_nbs {a b : List Nat} : (a, b) ∈ nbs fd K ↔ a ∈ K ∧ b ∈ K ∧ nbP fd K a b = true := by
  unfold nbs
  rw [List.mem_flatMap]
  constructor
  · rintro ⟨c, hc, h⟩
    obtain ⟨d, hd, e⟩ := List.mem_map.mp h
    cases e
    obtain ⟨h1, h2⟩ := List.mem_filter.mp hd
    exact ⟨hc, h1, h2⟩
  · rintro ⟨h1, h2, h3⟩
    exact ⟨a, h1, List.mem_map.mpr ⟨b, List.mem_filter.mpr ⟨h2, h3⟩, rfl⟩⟩
omit P in
theorem nbP_iff {a b : List Nat} : nbP fd K a b = true ↔ a ≠ b ∧ hd0 b ∈ nbr fd (hd0 a) ∧ ∀ c ∈ K, c ≠ a → c ≠ b → hd0 c ∈ nbr fd (hd0 a) → hd0 b ∉ nbr fd (hd0 c) := by
  unfold nbP
  rw [Bool.and_eq_true, Bool.and_eq_true, decide_eq_true_eq, decide_eq_true_eq, decide_eq_true_eq, List.length_eq_zero_iff, List.filter_eq_nil_iff]
  unfold btw
  constructor
  · rintro ⟨h1, h2, h3⟩
    refine ⟨h1, h2, fun c hc g1 g2 g3 g4 => h3 c hc ?_⟩
    rw [decide_eq_true ⟨g1, g2⟩, decide_eq_true g3, decide_eq_true g4]; rfl
  · rintro ⟨h1, h2, h3⟩
    refine ⟨h1, h2, fun c hc h => ?_⟩
    rw [Bool.and_eq_true, Bool.and_eq_true, decide_eq_true_eq, decide_eq_true_eq, decide_eq_true_eq] at h
    exact h3 c hc h.1.1 h.1.2 h.2.1 h.2.2
omit P in
theorem nbs_nd : (nbs fd K).Nodup := by
  unfold nbs
  have go : ∀ us : List (List Nat), us.Nodup → (us.flatMap fun a => (K.filter fun b => nbP fd K a b).map fun b => (a, b)).Nodup := by
    intro us
    induction us with
    | nil => intro _; exact List.nodup_nil
    | cons u us ih =>
      intro h
      rw [List.nodup_cons] at h
      rw [List.flatMap_cons, List.nodup_append]
      refine ⟨List.pairwise_map.mpr ((H.nd.sublist List.filter_sublist).imp fun h e => h (Prod.mk.inj e).2), ih h.2, ?_⟩
      rintro ⟨a, b⟩ h1 ⟨c, d⟩ h2 e
      cases e
      obtain ⟨x, _, e1⟩ := List.mem_map.mp h1
      obtain ⟨v, hv, h2⟩ := List.mem_flatMap.mp h2
      obtain ⟨y, _, e2⟩ := List.mem_map.mp h2
      cases e1
      have : v = u := (Prod.mk.inj e2).1
      exact h.1 (this ▸ hv)
  exact go _ H.nd
/-- the people of knots of more than one -/
theorem big_len : ((big K).map List.length).sum = ((List.range n).filter fun p => decide (1 < (cls fd p).length)).length := by
  rw [← List.length_flatten]
  refine perm_of ?_ (List.nodup_range.sublist List.filter_sublist) fun x => ?_
  · refine List.pairwise_flatten.mpr ⟨fun a ha => ?_, ?_⟩
    · obtain ⟨p, hp, rfl⟩ := (H.mem a).mp (List.mem_filter.mp ha).1
      exact (cls_pw P p).imp fun h => Nat.ne_of_lt h
    · refine List.Pairwise.imp_of_mem (fun {a b} ha hb hne x hx y hy e => hne ?_) (H.nd.sublist List.filter_sublist)
      subst e
      rw [(kn_of P H (List.mem_filter.mp ha).1 hx).2, (kn_of P H (List.mem_filter.mp hb).1 hy).2]
  · rw [List.mem_flatten, List.mem_filter, List.mem_range, decide_eq_true_eq]
    constructor
    · rintro ⟨a, ha, hx⟩
      obtain ⟨h1, h2⟩ := List.mem_filter.mp ha
      obtain ⟨h3, h4⟩ := kn_of P H h1 hx
      rw [← h4]
      exact ⟨h3, of_decide_eq_true h2⟩
    · rintro ⟨hx, h1⟩
      exact ⟨cls fd x, List.mem_filter.mpr ⟨kn_in P H hx, decide_eq_true h1⟩, self_cls P hx⟩
end
/-! ### any web in which all find the same has a card for each -/
theorem Rch.head {w : List (List Nat)} {p q : Nat} (h : Rch w p q) : p = q ∨ ∃ x, x ∈ nbr w p ∧ Rch w x q := by
  induction h with
  | refl => exact .inl rfl
  | tail h1 h2 ih =>
    rcases ih with rfl | ⟨x, hx, hr⟩
    · exact .inr ⟨_, h2, .refl⟩
    · exact .inr ⟨x, hx, .tail hr h2⟩
section
variable {v : List (List Nat)} (hv : Web v)
include hv
theorem in_card {p q : Nat} (hq : q ∈ cls (finds v) p) (hne : q ≠ p) : ∃ x, x ∈ nbr v p ∧ x ∈ cls (finds v) p := by
  obtain ⟨h1, h2⟩ := mem_cls.mp hq
  obtain ⟨p1, r1⟩ := (mem_finds hv).mp h1
  obtain ⟨q1, r2⟩ := (mem_finds hv).mp h2
  rcases r1.head with e | ⟨x, hx, hr⟩
  · exact absurd e.symm hne
  · exact ⟨x, hx, mem_cls.mpr ⟨(mem_finds hv).mpr ⟨p1, .tail .refl hx⟩, (mem_finds hv).mpr ⟨hv.lt hx, hr.trans r2⟩⟩⟩
theorem cross_card {K : List (List Nat)} (H : Kn v.length (finds v) K) {a b : List Nat} (ha : a ∈ K) (hb : b ∈ K) (h : nbP (finds v) K a b = true) : ∃ p x, p ∈ a ∧ x ∈ b ∧ x ∈ nbr v p := by
  have P := finds_pre hv
  obtain ⟨h1, h2, h3⟩ := (nbP_iff H).mp h
  obtain ⟨a1, a2, a3⟩ := kn_hd P H ha
  obtain ⟨b1, b2, b3⟩ := kn_hd P H hb
  obtain ⟨_, r⟩ := (mem_finds hv).mp h2
  have go : ∀ y, Rch v (hd0 a) y → y ∈ a ∨ ∃ p x, p ∈ a ∧ x ∉ a ∧ x ∈ nbr v p ∧ Rch v x y := by
    intro y hy
    induction hy with
    | refl => exact .inl a2
    | @tail y z hy hz ih =>
      rcases ih with ih | ⟨p, x, g1, g2, g3, g4⟩
      · by_cases q : z ∈ a
        · exact .inl q
        · exact .inr ⟨y, z, ih, q, hz, .refl⟩
      · exact .inr ⟨p, x, g1, g2, g3, .tail g4 hz⟩
  rcases go _ r with hin | ⟨p, x, g1, g2, g3, g4⟩
  · exfalso
    apply h1
    rw [(kn_of P H ha hin).2, ← b3]
  · refine ⟨p, x, g1, ?_, g3⟩
    have hx := hv.lt g3
    have hc := kn_in P H hx
    have hxc := self_cls P hx
    have hpx : x ∈ nbr (finds v) p := (mem_finds hv).mpr ⟨Web.lt1 g3, .tail .refl g3⟩
    have hxb : hd0 b ∈ nbr (finds v) x := (mem_finds hv).mpr ⟨hx, g4⟩
    by_cases e1 : cls (finds v) x = a
    · exact absurd (e1 ▸ hxc) g2
    by_cases e2 : cls (finds v) x = b
    · exact e2 ▸ hxc
    · exact absurd ((kn_le P H hc hb hxc b2).mpr hxb) (h3 _ hc e1 e2 ((kn_le P H ha hc g1 hxc).mpr hpx))
/-- no web in which all find the same has fewer cards -/
theorem lower {K : List (List Nat)} (H : Kn v.length (finds v) K) : few (finds v) K ≤ (cardsOf v).length := by
  have P := finds_pre hv
  have c1 : ∀ p ∈ (List.range v.length).filter (fun p => decide (1 < (cls (finds v) p).length)), ∃ x, x ∈ nbr v p ∧ x ∈ cls (finds v) p := fun p hp => by
    obtain ⟨h1, h2⟩ := List.mem_filter.mp hp
    have h2 := of_decide_eq_true h2
    have hp := List.mem_range.mp h1
    have : ∃ q, q ∈ cls (finds v) p ∧ q ≠ p := by
      apply Classical.byContradiction
      intro hc
      have h3 := nodup_le (xs := cls (finds v) p) (ys := [p]) ((cls_pw P p).imp fun h => Nat.ne_of_lt h) fun y hy => by
        apply Classical.byContradiction
        intro hy2
        exact hc ⟨y, hy, by simpa using hy2⟩
      simp at h3
      omega
    obtain ⟨q, hq, hne⟩ := this
    exact in_card hv hq hne
  have c2 : ∀ z ∈ nbs (finds v) K, ∃ p x, p ∈ z.1 ∧ x ∈ z.2 ∧ x ∈ nbr v p := fun z hz => by
    obtain ⟨a1, a2, a3⟩ := (mem_nbs H).mp (show (z.1, z.2) ∈ _ from hz)
    exact cross_card hv H a1 a2 a3
  obtain ⟨e1, g1⟩ : ∃ f : Nat → Nat, ∀ p ∈ (List.range v.length).filter (fun p => decide (1 < (cls (finds v) p).length)), f p ∈ nbr v p ∧ f p ∈ cls (finds v) p :=
    ⟨fun p => Classical.epsilon fun x => x ∈ nbr v p ∧ x ∈ cls (finds v) p, fun p hp => Classical.epsilon_spec (p := fun x => x ∈ nbr v p ∧ x ∈ cls (finds v) p) (c1 p hp)⟩
  obtain ⟨f2, g2⟩ : ∃ f : List Nat × List Nat → Nat × Nat, ∀ z ∈ nbs (finds v) K, (f z).1 ∈ z.1 ∧ (f z).2 ∈ z.2 ∧ (f z).2 ∈ nbr v (f z).1 :=
    ⟨fun z => Classical.epsilon fun c : Nat × Nat => c.1 ∈ z.1 ∧ c.2 ∈ z.2 ∧ c.2 ∈ nbr v c.1, fun z hz => by
      obtain ⟨p, x, q⟩ := c2 z hz
      exact Classical.epsilon_spec (p := fun c : Nat × Nat => c.1 ∈ z.1 ∧ c.2 ∈ z.2 ∧ c.2 ∈ nbr v c.1) ⟨(p, x), q⟩⟩
  let f1 : Nat → Nat × Nat := fun p => (p, e1 p)
  have hz : ∀ z ∈ nbs (finds v) K, z.1 = cls (finds v) (f2 z).1 ∧ z.2 = cls (finds v) (f2 z).2 ∧ z.1 ≠ z.2 := fun z hz => by
    obtain ⟨a1, a2, a3⟩ := (mem_nbs H).mp (show (z.1, z.2) ∈ _ from hz)
    exact ⟨(kn_of P H a1 (g2 z hz).1).2, (kn_of P H a2 (g2 z hz).2.1).2, ((nbP_iff H).mp a3).1⟩
  have := nodup_le (xs := ((List.range v.length).filter fun p => decide (1 < (cls (finds v) p).length)).map f1 ++ (nbs (finds v) K).map f2) (ys := cardsOf v) (by
    refine List.nodup_append.mpr ⟨?_, ?_, ?_⟩
    · exact List.pairwise_map.mpr ((List.nodup_range.sublist List.filter_sublist).imp fun h e => h (Prod.mk.inj e).1)
    · refine List.pairwise_map.mpr (List.Pairwise.imp_of_mem (fun {x y} hx hy hne e => hne ?_) (nbs_nd H))
      obtain ⟨a1, a2, _⟩ := hz x hx
      obtain ⟨b1, b2, _⟩ := hz y hy
      exact Prod.ext (by rw [a1, b1, e]) (by rw [a2, b2, e])
    · intro c hc d hd e
      subst e
      obtain ⟨p, hp, rfl⟩ := List.mem_map.mp hc
      obtain ⟨z, hz', e⟩ := List.mem_map.mp hd
      obtain ⟨a1, a2, a3⟩ := hz z hz'
      apply a3
      rw [a1, a2, e]
      exact (cls_eq P (g1 p hp).2).symm) fun c hc => by
    rcases List.mem_append.mp hc with hc | hc
    · obtain ⟨p, hp, rfl⟩ := List.mem_map.mp hc
      exact mem_cards.mpr (g1 p hp).1
    · obtain ⟨z, hz', rfl⟩ := List.mem_map.mp hc
      exact mem_cards.mpr (g2 z hz').2.2
  rw [List.length_append, List.length_map, List.length_map, ← big_len P H] at this
  exact this
end
end Ww
end
set_option Elab.async false
set_option linter.all false
set_option autoImplicit false
set_option maxRecDepth 100000
set_option maxHeartbeats 1000000
/-! A web of the fewest cards: plain Lean. -/
noncomputable section
namespace Ww
open Mi
def ring (K : List (List Nat)) : List (Nat × Nat) := (big K).flatMap fun k => k.zipIdx.map fun q => (q.1, k.getD ((q.2 + 1) % k.length) default)
def hdx (F : List (List Nat)) (a b : List Nat) : Nat := (b.filter fun x => decide (x ∈ nbr F (hd0 a))).getD 0 default
def cross (F fd K : List (List Nat)) : List (Nat × Nat) := (nbs fd K).map fun z => (hd0 z.1, hdx F z.1 z.2)
def lean (F fd K : List (List Nat)) : List (Nat × Nat) := ring K ++ cross F fd K
def toldW (n : Nat) (L : List (Nat × Nat)) : List (List Nat) := (List.range n).map fun i => sortN ((L.filter fun c => decide (c.1 = i)).map (·.2))
theorem lean_len (F fd K : List (List Nat)) : (lean F fd K).length = few fd K := by
  unfold lean ring cross few
  rw [List.length_append, List.length_map, List.length_flatMap]
  congr 3
  funext k
  rw [List.length_map, List.length_zipIdx]
theorem mem_ring {K : List (List Nat)} {c : Nat × Nat} : c ∈ ring K ↔ ∃ k, k ∈ K ∧ 1 < k.length ∧ ∃ i, ∃ h : i < k.length, c = (k[i], k.getD ((i + 1) % k.length) default) := by
  unfold ring big
  rw [List.mem_flatMap]
  constructor
  · rintro ⟨k, hk, h⟩
    obtain ⟨h1, h2⟩ := List.mem_filter.mp hk
    obtain ⟨⟨x, i⟩, hq, rfl⟩ := List.mem_map.mp h
    have h3 := List.mem_zipIdx_iff_getElem?.mp hq
    obtain ⟨hi, e⟩ := List.getElem?_eq_some_iff.mp h3
    exact ⟨k, h1, of_decide_eq_true h2, i, hi, by dsimp only; rw [e]⟩
  · rintro ⟨k, hk, h1, i, hi, rfl⟩
    exact ⟨k, List.mem_filter.mpr ⟨hk, decide_eq_true h1⟩, List.mem_map.mpr ⟨(k[i], i), List.mem_zipIdx_iff_getElem?.mpr (List.getElem?_eq_getElem hi), rfl⟩⟩
theorem getD_of {k : List Nat} {i : Nat} (h : i < k.length) : k.getD i default = k[i] := by
  rw [List.getD_eq_getElem?_getD, List.getElem?_eq_getElem h]; rfl
section
variable {w : List (List Nat)} (hw : Web w) {K : List (List Nat)} (H : Kn w.length (finds w) K)
include hw
/-- in the full web all of a knot hold one another -/
theorem full_knot {p q : Nat} (hq : q ∈ cls (finds w) p) (hne : q ≠ p) : Cl w (finds w) p q := by
  obtain ⟨h1, h2⟩ := mem_cls.mp hq
  have P := finds_pre hw
  obtain ⟨hp, r⟩ := (mem_finds hw).mp h1
  have go : ∀ y, Rch w p y → p ∈ nbr (finds w) y → y = p ∨ Cl w (finds w) p y := by
    intro y hy
    induction hy with
    | refl => exact fun _ => .inl rfl
    | @tail y z hy hz ih =>
      intro hzp
      have hyl := hy.lt hw hp
      have hyp : p ∈ nbr (finds w) y := P.trans _ _ _ ((mem_finds hw).mpr ⟨hyl, .tail .refl hz⟩) hzp
      by_cases q : z = p
      · exact .inl q
      · right
        rcases ih hyp with rfl | hc
        · exact .base hz
        · have hcy : Cl w (finds w) y p := .own hc hyp (hc.ne hw)
          exact .step hcy (.base hz) q ((mem_finds hw).mpr ⟨hp, .tail hy hz⟩)
  exact (go q r h2).resolve_left hne
include H
theorem cross_in {a b : List Nat} (ha : a ∈ K) (hb : b ∈ K) (h : nbP (finds w) K a b = true) : hdx (clo w (finds w)) a b ∈ b ∧ hdx (clo w (finds w)) a b ∈ nbr (clo w (finds w)) (hd0 a) := by
  have P := finds_pre hw
  obtain ⟨p, x, hp, hx, hc⟩ := cross_card hw H ha hb h
  obtain ⟨a1, a2, a3⟩ := kn_hd P H ha
  have hcx : Cl w (finds w) (hd0 a) x := by
    by_cases q : p = hd0 a
    · exact q ▸ .base hc
    · have hpa : hd0 a ∈ cls (finds w) p := by
        rw [← (kn_of P H ha hp).2]; exact a2
      have hap : Cl w (finds w) p (hd0 a) := full_knot hw hpa (fun e => q e.symm)
      have hxne : x ≠ hd0 a := fun e => ((nbP_iff H).mp h).1 (by rw [a3, ← e]; exact ((kn_of P H hb hx).2).symm)
      refine .step hap (.base hc) hxne ?_
      exact P.trans _ _ _ (mem_cls.mp hpa).2 ((mem_finds hw).mpr ⟨Web.lt1 hc, .tail .refl hc⟩)
  have hxm := (mem_clo (fd := finds w) hw).mpr hcx
  have hmem : x ∈ b.filter fun x => decide (x ∈ nbr (clo w (finds w)) (hd0 a)) := List.mem_filter.mpr ⟨hx, decide_eq_true hxm⟩
  have : hdx (clo w (finds w)) a b ∈ b.filter fun x => decide (x ∈ nbr (clo w (finds w)) (hd0 a)) := by
    unfold hdx
    cases hf : b.filter fun x => decide (x ∈ nbr (clo w (finds w)) (hd0 a)) with
    | nil => rw [hf] at hmem; exact nomatch hmem
    | cons y ys => exact .head _
  obtain ⟨g1, g2⟩ := List.mem_filter.mp this
  exact ⟨g1, of_decide_eq_true g2⟩
theorem ring_in {c : Nat × Nat} (hc : c ∈ ring K) : c.2 ∈ cls (finds w) c.1 ∧ c.2 ≠ c.1 ∧ c.1 < w.length := by
  have P := finds_pre hw
  obtain ⟨k, hk, h1, i, hi, rfl⟩ := mem_ring.mp hc
  have hj : (i + 1) % k.length < k.length := Nat.mod_lt _ (by omega)
  dsimp only
  rw [getD_of hj]
  obtain ⟨g1, g2⟩ := kn_of P H hk (List.getElem_mem hi)
  refine ⟨by rw [← g2]; exact List.getElem_mem hj, fun e => ?_, g1⟩
  have hnd : k.Nodup := by rw [g2]; exact (cls_pw P _).imp fun h => Nat.ne_of_lt h
  have hij : (i + 1) % k.length ≠ i := by
    by_cases q : i + 1 = k.length
    · rw [q, Nat.mod_self]; omega
    · rw [Nat.mod_eq_of_lt (by omega)]; omega
  have nd := List.pairwise_iff_getElem.mp hnd
  rcases Nat.lt_or_gt_of_ne hij with r | r
  · exact nd _ _ hj hi r e
  · exact nd _ _ hi hj r e.symm
theorem cross_mem {c : Nat × Nat} (hc : c ∈ cross (clo w (finds w)) (finds w) K) : ∃ a b, a ∈ K ∧ b ∈ K ∧ nbP (finds w) K a b = true ∧ c = (hd0 a, hdx (clo w (finds w)) a b) := by
  obtain ⟨⟨a, b⟩, hz, rfl⟩ := List.mem_map.mp hc
  obtain ⟨h1, h2, h3⟩ := (mem_nbs H).mp hz
  exact ⟨a, b, h1, h2, h3, rfl⟩
theorem lean_cl {c : Nat × Nat} (hc : c ∈ lean (clo w (finds w)) (finds w) K) : Cl w (finds w) c.1 c.2 := by
  rcases List.mem_append.mp hc with hc | hc
  · obtain ⟨h1, h2, _⟩ := ring_in hw H hc
    exact full_knot hw h1 h2
  · obtain ⟨a, b, h1, h2, h3, rfl⟩ := cross_mem hw H hc
    exact (mem_clo hw).mp (cross_in hw H h1 h2 h3).2
theorem lean_nd : (lean (clo w (finds w)) (finds w) K).Nodup := by
  have P := finds_pre hw
  refine List.nodup_append.mpr ⟨?_, ?_, ?_⟩
  · have e : (ring K).map Prod.fst = (big K).flatten := by
      unfold ring
      rw [List.map_flatMap, List.flatten_eq_flatMap]
      congr 1
      funext k
      rw [List.map_map]
      show k.zipIdx.map Prod.fst = k
      exact List.zipIdx_map_fst _ _
    have h1 : ((ring K).map Prod.fst).Nodup := by
      rw [e]
      refine List.pairwise_flatten.mpr ⟨fun a ha => ?_, ?_⟩
      · obtain ⟨p, hp, rfl⟩ := (H.mem a).mp (List.mem_filter.mp ha).1
        exact (cls_pw P p).imp fun h => Nat.ne_of_lt h
      · refine List.Pairwise.imp_of_mem (fun {a b} ha hb hne x hx y hy e => hne ?_) (H.nd.sublist List.filter_sublist)
        subst e
        rw [(kn_of P H (List.mem_filter.mp ha).1 hx).2, (kn_of P H (List.mem_filter.mp hb).1 hy).2]
    exact (List.pairwise_map.mp h1).imp fun h e => h (by rw [e])
  · refine List.pairwise_map.mpr (List.Pairwise.imp_of_mem (fun {x y} hx hy hne e => hne ?_) (nbs_nd H))
    obtain ⟨a1, a2, a3⟩ := (mem_nbs H).mp (show (x.1, x.2) ∈ _ from hx)
    obtain ⟨b1, b2, b3⟩ := (mem_nbs H).mp (show (y.1, y.2) ∈ _ from hy)
    have e1 := (Prod.mk.inj e).1
    have e2 := (Prod.mk.inj e).2
    have hx1 := (kn_of P H a2 (cross_in hw H a1 a2 a3).1).2
    have hy1 := (kn_of P H b2 (cross_in hw H b1 b2 b3).1).2
    exact Prod.ext (by rw [(kn_hd P H a1).2.2, (kn_hd P H b1).2.2, e1]) (by rw [hx1, hy1, e2])
  · intro c hc d hd e
    subst e
    obtain ⟨h1, _, _⟩ := ring_in hw H hc
    obtain ⟨a, b, g1, g2, g3, rfl⟩ := cross_mem hw H hd
    apply ((nbP_iff H).mp g3).1
    rw [(kn_hd P H g1).2.2, (kn_of P H g2 (cross_in hw H g1 g2 g3).1).2]
    exact (cls_eq P h1).symm
theorem told_len (n : Nat) (L : List (Nat × Nat)) : (toldW n L).length = n := by
  unfold toldW; rw [List.length_map, List.length_range]
omit hw H in
theorem told_nbr {n : Nat} {L : List (Nat × Nat)} {i : Nat} (hi : i < n) : nbr (toldW n L) i = sortN ((L.filter fun c => decide (c.1 = i)).map (·.2)) := by
  show (toldW n L).getD i default = _
  unfold toldW
  rw [List.getD_eq_getElem?_getD, List.getElem?_map, List.getElem?_range hi]
  rfl
omit hw H in
theorem mem_told {n : Nat} {L : List (Nat × Nat)} {i y : Nat} (hi : i < n) : y ∈ nbr (toldW n L) i ↔ (i, y) ∈ L := by
  rw [told_nbr hi, mem_sortN, List.mem_map]
  constructor
  · rintro ⟨⟨a, b⟩, h, rfl⟩
    obtain ⟨h1, h2⟩ := List.mem_filter.mp h
    have : a = i := of_decide_eq_true h2
    subst this
    exact h1
  · exact fun h => ⟨(i, y), List.mem_filter.mpr ⟨h, decide_eq_true rfl⟩, rfl⟩
omit hw H in
theorem told_web {n : Nat} {L : List (Nat × Nat)} (h1 : 1 ≤ n) (h9 : n ≤ 9) (hnd : L.Nodup) (hL : ∀ c ∈ L, c.1 < n ∧ c.2 < n ∧ c.1 ≠ c.2) : Web (toldW n L) := by
  have hpw : ∀ i, i < n → (nbr (toldW n L) i).Pairwise (· < ·) := fun i hi => by
    rw [told_nbr hi]
    refine sortN_lt (List.pairwise_map.mpr (List.Pairwise.imp_of_mem (fun {a b} ha hb hne e => hne ?_) (hnd.sublist List.filter_sublist)))
    have h3 := of_decide_eq_true (List.mem_filter.mp ha).2
    have h4 := of_decide_eq_true (List.mem_filter.mp hb).2
    exact Prod.ext (by rw [h3, h4]) e
  have hlt : ∀ i, i < n → ∀ y ∈ nbr (toldW n L) i, y < n ∧ i ≠ y := fun i hi y hy => by
    have := hL _ ((mem_told hi).mp hy)
    exact ⟨this.2.1, this.2.2⟩
  have hlen : (toldW n L).length = n := by unfold toldW; rw [List.length_map, List.length_range]
  refine ⟨by rw [hlen]; exact h1, by rw [hlen]; exact h9, fun p hp => ?_, fun i p hp => ?_⟩
  · obtain ⟨i, hi, e⟩ := List.getElem_of_mem hp
    rw [hlen] at hi
    have e2 : p = nbr (toldW n L) i := by rw [nbr_at (by rw [hlen]; exact hi), e]
    rw [e2]
    refine ⟨asc_of (hpw i hi), ?_, fun x hx => by rw [hlen]; exact (hlt i hi x hx).1⟩
    have := nodup_le (ys := List.range n) ((hpw i hi).imp fun h => Nat.ne_of_lt h) fun x hx => List.mem_range.mpr (hlt i hi x hx).1
    rw [List.length_range] at this
    omega
  · have hi := (List.getElem?_eq_some_iff.mp hp).1
    rw [hlen] at hi
    have e2 : p = nbr (toldW n L) i := by
      show p = (toldW n L).getD i default
      rw [List.getD_eq_getElem?_getD, hp]; rfl
    rw [e2]
    exact fun h => (hlt i hi i h).2 rfl
theorem lean_ok : ∀ c ∈ lean (clo w (finds w)) (finds w) K, c.1 < w.length ∧ c.2 < w.length ∧ c.1 ≠ c.2 := fun c hc => by
  have h := lean_cl hw H hc
  exact ⟨(h.lt hw).1, (h.lt hw).2, h.ne hw⟩
theorem lean_web : Web (toldW w.length (lean (clo w (finds w)) (finds w) K)) := told_web hw.lo hw.hi (lean_nd hw H) (lean_ok hw H)
theorem lean_cards : (cardsOf (toldW w.length (lean (clo w (finds w)) (finds w) K))).length = few (finds w) K := by
  rw [← lean_len (clo w (finds w))]
  refine perm_of (cards_nd (lean_web hw H)) (lean_nd hw H) fun ⟨a, b⟩ => ?_
  rw [mem_cards]
  constructor
  · intro h
    have ha := Web.lt1 h
    rw [told_len hw H] at ha
    exact (mem_told ha).mp h
  · intro h
    exact (mem_told (lean_ok hw H _ h).1).mpr h
theorem ring_reach {p q : Nat} (hq : q ∈ cls (finds w) p) : Rch (toldW w.length (lean (clo w (finds w)) (finds w) K)) p q := by
  have P := finds_pre hw
  have hp : p < w.length := (P.lt _ _ (mem_cls.mp hq).1).1
  have hk := kn_in P H hp
  have hpk := self_cls P hp
  obtain ⟨i, hi, ei⟩ := List.getElem_of_mem hpk
  obtain ⟨j, hj, ej⟩ := List.getElem_of_mem hq
  by_cases h1 : 1 < (cls (finds w) p).length
  · have go : ∀ d, Rch (toldW w.length (lean (clo w (finds w)) (finds w) K)) p ((cls (finds w) p).getD ((i + d) % (cls (finds w) p).length) default) := by
      intro d
      induction d with
      | zero =>
        rw [Nat.add_zero, Nat.mod_eq_of_lt hi, getD_of hi, ei]
        exact .refl
      | succ d ih =>
        have hm : (i + d) % (cls (finds w) p).length < (cls (finds w) p).length := Nat.mod_lt _ (by omega)
        refine .tail ih ?_
        rw [getD_of hm]
        have hx := (kn_of P H hk (List.getElem_mem hm)).1
        refine (mem_told hx).mpr (List.mem_append_left _ (mem_ring.mpr ⟨cls (finds w) p, hk, h1, (i + d) % (cls (finds w) p).length, hm, ?_⟩))
        rw [Nat.mod_add_mod, Nat.add_assoc]
    have e : (i + (j + (cls (finds w) p).length - i)) % (cls (finds w) p).length = j := by
      rw [show i + (j + (cls (finds w) p).length - i) = j + (cls (finds w) p).length by omega, Nat.add_mod_right, Nat.mod_eq_of_lt hj]
    have := go (j + (cls (finds w) p).length - i)
    rw [e, getD_of hj, ej] at this
    exact this
  · have : i = j := by omega
    subst this
    rw [ei] at ej
    subst ej
    exact .refl
theorem all_reach : ∀ (m p q : Nat), q ∈ nbr (finds w) p → ((List.range w.length).filter fun y => decide (y ∈ nbr (finds w) p) && decide (q ∈ nbr (finds w) y)).length ≤ m → Rch (toldW w.length (lean (clo w (finds w)) (finds w) K)) p q := by
  have P := finds_pre hw
  intro m
  induction m with
  | zero =>
    intro p q hq hm
    have hin : q ∈ (List.range w.length).filter fun y => decide (y ∈ nbr (finds w) p) && decide (q ∈ nbr (finds w) y) := by
      obtain ⟨h1, h2⟩ := P.lt _ _ hq
      rw [List.mem_filter, List.mem_range, decide_eq_true hq, decide_eq_true (P.refl q h2)]
      exact ⟨h2, rfl⟩
    have := List.length_pos_of_mem hin
    omega
  | succ m ih =>
    intro p q hq hm
    obtain ⟨hp, hql⟩ := P.lt _ _ hq
    by_cases hc : q ∈ cls (finds w) p
    · exact ring_reach hw H hc
    have ha := kn_in P H hp
    have hb := kn_in P H hql
    have hpa := self_cls P hp
    have hqb := self_cls P hql
    have hne : cls (finds w) p ≠ cls (finds w) q := fun e => hc (e ▸ hqb)
    obtain ⟨a1, a2, a3⟩ := kn_hd P H ha
    cases hn : nbP (finds w) K (cls (finds w) p) (cls (finds w) q) with
    | true =>
      obtain ⟨x1, x2⟩ := cross_in hw H ha hb hn
      have r1 := ring_reach hw H a2
      have hcard : hdx (clo w (finds w)) (cls (finds w) p) (cls (finds w) q) ∈ nbr (toldW w.length (lean (clo w (finds w)) (finds w) K)) (hd0 (cls (finds w) p)) :=
        (mem_told a1).mpr (List.mem_append_right _ (List.mem_map.mpr ⟨(cls (finds w) p, cls (finds w) q), (mem_nbs H).mpr ⟨ha, hb, hn⟩, rfl⟩))
      have r3 : Rch (toldW w.length (lean (clo w (finds w)) (finds w) K)) (hdx (clo w (finds w)) (cls (finds w) p) (cls (finds w) q)) q := ring_reach hw H (by rw [cls_eq P x1]; exact hqb)
      exact (Rch.tail r1 hcard).trans r3
    | false =>
      have hex : ∃ c ∈ K, c ≠ cls (finds w) p ∧ c ≠ cls (finds w) q ∧ hd0 c ∈ nbr (finds w) (hd0 (cls (finds w) p)) ∧ hd0 (cls (finds w) q) ∈ nbr (finds w) (hd0 c) := by
        apply Classical.byContradiction
        intro hno
        have : nbP (finds w) K (cls (finds w) p) (cls (finds w) q) = true := (nbP_iff H).mpr ⟨hne, (kn_le P H ha hb hpa hqb).mpr hq, fun c hc h1 h2 h3 h4 => hno ⟨c, hc, h1, h2, h3, h4⟩⟩
        rw [this] at hn
        exact nomatch hn
      obtain ⟨c, hcK, c1, c2, c3, c4⟩ := hex
      obtain ⟨k1, k2, k3⟩ := kn_hd P H hcK
      have hpc : hd0 c ∈ nbr (finds w) p := (kn_le P H ha hcK hpa k2).mp c3
      have hcq : q ∈ nbr (finds w) (hd0 c) := (kn_le P H hcK hb k2 hqb).mp c4
      have l1 := nodup_le (xs := q :: (List.range w.length).filter (fun y => decide (y ∈ nbr (finds w) p) && decide (hd0 c ∈ nbr (finds w) y))) (ys := (List.range w.length).filter fun y => decide (y ∈ nbr (finds w) p) && decide (q ∈ nbr (finds w) y)) (by
        refine List.nodup_cons.mpr ⟨fun h => ?_, List.nodup_range.sublist List.filter_sublist⟩
        rw [List.mem_filter, Bool.and_eq_true, decide_eq_true_eq, decide_eq_true_eq] at h
        exact c2 (by rw [k3]; exact (cls_eq P (mem_cls.mpr ⟨hcq, h.2.2⟩)).symm)) (fun y hy => by
        rw [List.mem_filter, List.mem_range, Bool.and_eq_true, decide_eq_true_eq, decide_eq_true_eq]
        rcases List.mem_cons.mp hy with rfl | hy
        · exact ⟨hql, hq, P.refl _ hql⟩
        · rw [List.mem_filter, List.mem_range, Bool.and_eq_true, decide_eq_true_eq, decide_eq_true_eq] at hy
          exact ⟨hy.1, hy.2.1, P.trans _ _ _ hy.2.2 hcq⟩)
      have l2 := nodup_le (xs := p :: (List.range w.length).filter (fun y => decide (y ∈ nbr (finds w) (hd0 c)) && decide (q ∈ nbr (finds w) y))) (ys := (List.range w.length).filter fun y => decide (y ∈ nbr (finds w) p) && decide (q ∈ nbr (finds w) y)) (by
        refine List.nodup_cons.mpr ⟨fun h => ?_, List.nodup_range.sublist List.filter_sublist⟩
        rw [List.mem_filter, Bool.and_eq_true, decide_eq_true_eq, decide_eq_true_eq] at h
        exact c1 (by rw [k3]; exact cls_eq P (mem_cls.mpr ⟨hpc, h.2.1⟩))) (fun y hy => by
        rw [List.mem_filter, List.mem_range, Bool.and_eq_true, decide_eq_true_eq, decide_eq_true_eq]
        rcases List.mem_cons.mp hy with rfl | hy
        · exact ⟨hp, P.refl _ hp, hq⟩
        · rw [List.mem_filter, List.mem_range, Bool.and_eq_true, decide_eq_true_eq, decide_eq_true_eq] at hy
          exact ⟨hy.1, P.trans _ _ _ hpc hy.2.1, hy.2.2⟩)
      simp only [List.length_cons] at l1 l2
      exact (ih p (hd0 c) hpc (by omega)).trans (ih (hd0 c) q hcq (by omega))
theorem lean_finds : finds (toldW w.length (lean (clo w (finds w)) (finds w) K)) = finds w := by
  refine (finds_eq (lean_web hw H) hw (told_len hw H _ _)).mpr fun p hp y => ⟨fun h => ?_, fun h => ?_⟩
  · rw [told_len hw H] at hp
    induction h with
    | refl => exact .refl
    | @tail x y hx hy ih =>
      have hxl := Web.lt1 hy
      rw [told_len hw H] at hxl
      exact ih.trans ((lean_cl hw H ((mem_told hxl).mp hy)).rch hw)
  · rw [told_len hw H] at hp
    exact all_reach hw H _ p y ((mem_finds hw).mpr ⟨hp, h⟩) (Nat.le_refl _)
end
end Ww
end
set_option Elab.async false
set_option linter.all false
set_option autoImplicit false
set_option maxRecDepth 100000
set_option maxHeartbeats 1000000
/-! Pieces of webs; people named anew; a card more: plain Lean. -/
noncomputable section
namespace Ww
open Mi
/-! ### lists as sets -/
theorem insN_fold {α : Type} [DecidableEq α] : ∀ (xs acc : List α), acc.Nodup → (xs.foldl insN acc).Nodup ∧ ∀ a, a ∈ xs.foldl insN acc ↔ a ∈ acc ∨ a ∈ xs
  | [], acc, h => ⟨h, fun a => by simp⟩
  | x :: xs, acc, h => by
    obtain ⟨h1, h2⟩ := insN_fold xs (insN acc x) (nodup_insN h)
    refine ⟨h1, fun a => ?_⟩
    show a ∈ xs.foldl insN (insN acc x) ↔ _
    rw [h2, mem_insN, List.mem_cons]
    constructor
    · rintro ((h | h) | h)
      · exact .inr (.inl h)
      · exact .inl h
      · exact .inr (.inr h)
    · rintro (h | h | h)
      · exact .inl (.inr h)
      · exact .inl (.inl h)
      · exact .inr h
theorem insN_fold_len {α : Type} [DecidableEq α] : ∀ (xs acc : List α), (xs.foldl insN acc).length ≤ acc.length + xs.length
  | [], acc => Nat.le_refl _
  | x :: xs, acc => by
    refine Nat.le_trans (insN_fold_len xs (insN acc x)) ?_
    have : (insN acc x).length ≤ acc.length + 1 := by
      unfold insN
      split
      · omega
      · rw [List.length_append]; exact Nat.le_refl _
    rw [List.length_cons]; omega
theorem perm_mem {α : Type} [DecidableEq α] {xs ys : List α} (h1 : xs.Nodup) (h2 : ys.Nodup) (h : ∀ x, x ∈ xs ↔ x ∈ ys) : xs.Perm ys := (List.perm_ext_iff_of_nodup h1 h2).mpr h
/-! ### pieces -/
def both (w : List (List Nat)) : List (List Nat) := rows w.length fun p y => decide (y ∈ nbr w p) || decide (p ∈ nbr w y)
theorem both_len (w : List (List Nat)) : (both w).length = w.length := rows_len ..
section
variable {w : List (List Nat)} (hw : Web w)
include hw
theorem both_web : Web (both w) := rows_web hw.lo hw.hi fun p => by
  have : p ∉ nbr w p := fun h => hw.ne h rfl
  rw [decide_eq_false this]; rfl
theorem mem_both {p y : Nat} : y ∈ nbr (both w) p ↔ y ∈ nbr w p ∨ p ∈ nbr w y := by
  constructor
  · intro h
    have hp := Web.lt1 h
    rw [both_len] at hp
    have := (mem_rows hp).mp h
    rw [Bool.or_eq_true, decide_eq_true_eq, decide_eq_true_eq] at this
    exact this.2
  · intro h
    have hp : p < w.length := h.elim (fun h => Web.lt1 h) fun h => hw.lt h
    have hy : y < w.length := h.elim (fun h => hw.lt h) fun h => Web.lt1 h
    refine (mem_rows hp).mpr ⟨hy, ?_⟩
    rw [Bool.or_eq_true, decide_eq_true_eq, decide_eq_true_eq]
    exact h
theorem both_sym {p q : Nat} (h : Rch (both w) p q) : Rch (both w) q p := by
  induction h with
  | refl => exact .refl
  | tail h1 h2 ih => exact Rch.trans (.tail .refl ((mem_both hw).mpr ((mem_both hw).mp h2).symm)) ih
theorem rch_both {p q : Nat} (h : Rch w p q) : Rch (both w) p q := by
  induction h with
  | refl => exact .refl
  | tail h1 h2 ih => exact .tail ih ((mem_both hw).mpr (.inl h2))
/-- the piece of one of the people -/
abbrev pc (w : List (List Nat)) (p : Nat) : List Nat := nbr (finds (both w)) p
theorem mem_pc {p y : Nat} : y ∈ pc w p ↔ p < w.length ∧ Rch (both w) p y := by
  rw [mem_finds (both_web hw), both_len]
theorem pc_self {p : Nat} (hp : p < w.length) : p ∈ pc w p := (mem_pc hw).mpr ⟨hp, .refl⟩
theorem pc_pw (p : Nat) : (pc w p).Pairwise (· < ·) := (finds_pre (both_web hw)).pw p
theorem pc_lt {p y : Nat} (h : y ∈ pc w p) : p < w.length ∧ y < w.length := by
  have := (finds_pre (both_web hw)).lt _ _ h
  rw [both_len] at this
  exact this
theorem pc_eq {p y : Nat} (h : y ∈ pc w p) : pc w y = pc w p := by
  obtain ⟨h1, h2⟩ := (mem_pc hw).mp h
  have hy := (pc_lt hw h).2
  refine asc_uniq (pc_pw hw y) (pc_pw hw p) fun z => ?_
  rw [mem_pc hw, mem_pc hw]
  exact ⟨fun q => ⟨h1, h2.trans q.2⟩, fun q => ⟨hy, (both_sym hw h2).trans q.2⟩⟩
end
def pieces0 (w : List (List Nat)) : List (List Nat) := (finds (both w)).foldl insN []
/-- lots, one of each of the people -/
structure Lots (n : Nat) (c : Nat → List Nat) (K : List (List Nat)) : Prop where
  nd : K.Nodup
  mem : ∀ a, a ∈ K ↔ ∃ p < n, a = c p
theorem mem_nbrs {F : List (List Nat)} {a : List Nat} : a ∈ F ↔ ∃ p < F.length, a = nbr F p := by
  constructor
  · intro h
    obtain ⟨i, hi, e⟩ := List.getElem_of_mem h
    exact ⟨i, hi, by rw [nbr_at hi, e]⟩
  · rintro ⟨p, hp, rfl⟩
    rw [nbr_at hp]
    exact List.getElem_mem hp
theorem pieces0_lots (w : List (List Nat)) : Lots w.length (pc w) (pieces0 w) := by
  obtain ⟨h1, h2⟩ := insN_fold (finds (both w)) [] List.nodup_nil
  refine ⟨h1, fun a => ?_⟩
  show a ∈ (finds (both w)).foldl insN [] ↔ _
  rw [h2]
  refine (show (a ∈ [] ∨ a ∈ finds (both w)) ↔ a ∈ finds (both w) by simp).trans (mem_nbrs.trans ?_)
  rw [finds_len, both_len]
theorem knots0_lots (fd : List (List Nat)) (n : Nat) : Lots n (cls fd) (knots0 fd (List.range n)) := by
  obtain ⟨h1, h2⟩ := knots0_facts (fd := fd) n
  exact ⟨h1, h2⟩
theorem Lots.perm {n : Nat} {c : Nat → List Nat} {K K' : List (List Nat)} (h : Lots n c K) (p : K'.Perm K) : Lots n c K' := ⟨p.nodup_iff.mpr h.nd, fun a => p.mem_iff.trans (h.mem a)⟩
theorem Lots.sort {n : Nat} {c : Nat → List Nat} {K K' : List (List Nat)} (h : Lots n c K) (h' : Lots n c K') : sortT K = sortT K' := sortT_eq (perm_mem h.nd h'.nd fun a => (h.mem a).trans (h'.mem a).symm)
/-! ### people named anew -/
structure Naming (n : Nat) (ns : List Nat) : Prop where
  len : ns.length = n
  nd : ns.Nodup
  lt : ∀ x ∈ ns, x < n
abbrev nm (ns : List Nat) (p : Nat) : Nat := ns.getD p default
section
variable {n : Nat} {ns : List Nat} (N : Naming n ns)
include N
theorem nm_at {p : Nat} (hp : p < n) : nm ns p = ns[p]'(by rw [N.len]; exact hp) := by
  show ns.getD p default = _
  rw [List.getD_eq_getElem?_getD, List.getElem?_eq_getElem (by rw [N.len]; exact hp)]; rfl
theorem nm_lt {p : Nat} (hp : p < n) : nm ns p < n := by
  rw [nm_at N hp]; exact N.lt _ (List.getElem_mem _)
theorem nm_inj {p q : Nat} (hp : p < n) (hq : q < n) (e : nm ns p = nm ns q) : p = q := by
  rw [nm_at N hp, nm_at N hq] at e
  have h := List.pairwise_iff_getElem.mp N.nd
  rcases Nat.lt_trichotomy p q with k | k | k
  · exact absurd e (h p q _ _ k)
  · exact k
  · exact absurd e.symm (h q p _ _ k)
theorem nm_onto {i : Nat} (hi : i < n) : ∃ p < n, nm ns p = i := by
  have this : i ∈ ns := by
    refine Decidable.byContradiction fun h => ?_
    have := nodup_le (xs := i :: ns) (ys := List.range n) (List.nodup_cons.mpr ⟨h, N.nd⟩) fun x hx => by
      rcases List.mem_cons.mp hx with rfl | hx
      · exact List.mem_range.mpr hi
      · exact List.mem_range.mpr (N.lt x hx)
    rw [List.length_cons, N.len, List.length_range] at this
    omega
  obtain ⟨p, hp, e⟩ := List.getElem_of_mem this
  rw [N.len] at hp
  exact ⟨p, hp, by rw [nm_at N hp, e]⟩
omit N in
def gN (ns : List Nat) (l : List Nat) : List Nat := sortN (l.map (nm ns))
omit N in
theorem mem_gN {l : List Nat} {z : Nat} : z ∈ gN ns l ↔ ∃ y ∈ l, nm ns y = z := by
  unfold gN
  rw [mem_sortN, List.mem_map]
theorem gN_pw {l : List Nat} (hl : l.Nodup) (h : ∀ y ∈ l, y < n) : (gN ns l).Pairwise (· < ·) := by
  refine sortN_lt (List.pairwise_map.mpr (List.Pairwise.imp_of_mem (fun {a b} ha hb hne e => hne (nm_inj N (h a ha) (h b hb) e)) hl))
theorem gN_inj {l m : List Nat} (hl : l.Pairwise (· < ·)) (hm : m.Pairwise (· < ·)) (h1 : ∀ y ∈ l, y < n) (h2 : ∀ y ∈ m, y < n) (e : gN ns l = gN ns m) : l = m := by
  refine asc_uniq hl hm fun z => ?_
  constructor
  · intro hz
    have : nm ns z ∈ gN ns m := e ▸ mem_gN.mpr ⟨z, hz, rfl⟩
    obtain ⟨y, hy, q⟩ := mem_gN.mp this
    rw [← nm_inj N (h2 y hy) (h1 z hz) q]; exact hy
  · intro hz
    have : nm ns z ∈ gN ns l := e ▸ mem_gN.mpr ⟨z, hz, rfl⟩
    obtain ⟨y, hy, q⟩ := mem_gN.mp this
    rw [← nm_inj N (h1 y hy) (h2 z hz) q]; exact hy
omit N in
/-- what is called otherwise: row p stands at the name of p -/
structure Called (n : Nat) (ns : List Nat) (F G : List (List Nat)) : Prop where
  len : G.length = n
  row : ∀ p < n, nbr G (nm ns p) = gN ns (nbr F p)
theorem Called.uniq {F G G' : List (List Nat)} (h : Called n ns F G) (h' : Called n ns F G') : G = G' := by
  apply List.ext_getElem
  · rw [h.len, h'.len]
  · intro i h1 h2
    rw [h.len] at h1
    obtain ⟨p, hp, rfl⟩ := nm_onto N h1
    rw [← nbr_at, ← nbr_at, h.row p hp, h'.row p hp]
theorem lots_called {c c' : Nat → List Nat} {K K' : List (List Nat)} (h : Lots n c K) (h' : Lots n c' K') (hc : ∀ p < n, (c p).Pairwise (· < ·) ∧ ∀ y ∈ c p, y < n) (e : ∀ p < n, c' (nm ns p) = gN ns (c p)) : sortT K' = sortT (K.map (gN ns)) := by
  refine sortT_eq (perm_mem h'.nd ?_ fun a => ?_)
  · refine List.pairwise_map.mpr (List.Pairwise.imp_of_mem (fun {a b} ha hb hne q => hne ?_) h.nd)
    obtain ⟨p, hp, rfl⟩ := (h.mem a).mp ha
    obtain ⟨r, hr, rfl⟩ := (h.mem b).mp hb
    exact gN_inj N (hc p hp).1 (hc r hr).1 (hc p hp).2 (hc r hr).2 q
  · rw [h'.mem, List.mem_map]
    constructor
    · rintro ⟨i, hi, rfl⟩
      obtain ⟨p, hp, rfl⟩ := nm_onto N hi
      exact ⟨c p, (h.mem _).mpr ⟨p, hp, rfl⟩, (e p hp).symm⟩
    · rintro ⟨b, hb, rfl⟩
      obtain ⟨p, hp, rfl⟩ := (h.mem b).mp hb
      exact ⟨nm ns p, nm_lt N hp, (e p hp).symm⟩
end
end Ww
end
set_option Elab.async false
set_option linter.all false
set_option autoImplicit false
set_option maxRecDepth 100000
set_option maxHeartbeats 1000000
/-! Webs called otherwise, turned about, with a card more; knots in pieces; names that spread: plain Lean. -/
noncomputable section
namespace Ww
open Mi
theorem web_mk {G : List (List Nat)} {n : Nat} (hlen : G.length = n) (h1 : 1 ≤ n) (h9 : n ≤ 9) (hpw : ∀ i < n, (nbr G i).Pairwise (· < ·)) (hlt : ∀ i < n, ∀ y ∈ nbr G i, y < n ∧ i ≠ y) : Web G := by
  refine ⟨by rw [hlen]; exact h1, by rw [hlen]; exact h9, fun p hp => ?_, fun i p hp => ?_⟩
  · obtain ⟨i, hi, e⟩ := List.getElem_of_mem hp
    rw [hlen] at hi
    have e2 : p = nbr G i := by rw [nbr_at (by rw [hlen]; exact hi), e]
    rw [e2]
    refine ⟨asc_of (hpw i hi), ?_, fun x hx => by rw [hlen]; exact (hlt i hi x hx).1⟩
    have := nodup_le (ys := List.range n) ((hpw i hi).imp fun h => Nat.ne_of_lt h) fun x hx => List.mem_range.mpr (hlt i hi x hx).1
    rw [List.length_range] at this
    omega
  · have hi := (List.getElem?_eq_some_iff.mp hp).1
    rw [hlen] at hi
    have e2 : p = nbr G i := by
      show p = G.getD i default
      rw [List.getD_eq_getElem?_getD, hp]; rfl
    rw [e2]
    exact fun h => (hlt i hi i h).2 rfl
section
variable {n : Nat} {ns : List Nat} (N : Naming n ns) {w v : List (List Nat)} (hw : Web w) (hl : w.length = n) (C : Called n ns w v)
include N hw hl C
theorem cal_mem {p y : Nat} (hp : p < n) (hy : y < n) : nm ns y ∈ nbr v (nm ns p) ↔ y ∈ nbr w p := by
  rw [C.row p hp, mem_gN]
  constructor
  · rintro ⟨z, hz, e⟩
    rw [← nm_inj N (by have := hw.lt hz; omega) hy e]; exact hz
  · intro h; exact ⟨y, h, rfl⟩
theorem cal_web : Web v := by
  refine web_mk C.len (by rw [← hl]; exact hw.lo) (by rw [← hl]; exact hw.hi) (fun i hi => ?_) fun i hi y hy => ?_
  · obtain ⟨p, hp, rfl⟩ := nm_onto N hi
    rw [C.row p hp]
    exact gN_pw N (hw.nd p) fun y hy => by rw [← hl]; exact hw.lt hy
  · obtain ⟨p, hp, rfl⟩ := nm_onto N hi
    rw [C.row p hp] at hy
    obtain ⟨z, hz, rfl⟩ := mem_gN.mp hy
    have hzn : z < n := by rw [← hl]; exact hw.lt hz
    exact ⟨nm_lt N hzn, fun e => hw.ne hz (nm_inj N hp hzn e)⟩
theorem cal_rch {p q : Nat} (hp : p < n) (h : Rch w p q) : Rch v (nm ns p) (nm ns q) := by
  induction h with
  | refl => exact .refl
  | @tail x y h1 h2 ih =>
    have hx : x < n := by have := h1.lt hw (by rw [hl]; exact hp); omega
    have hy : y < n := by rw [← hl]; exact hw.lt h2
    exact .tail ih ((cal_mem N hw hl C hx hy).mpr h2)
theorem cal_rch' {p j : Nat} (hp : p < n) (h : Rch v (nm ns p) j) : ∃ q < n, nm ns q = j ∧ Rch w p q := by
  induction h with
  | refl => exact ⟨p, hp, rfl, .refl⟩
  | @tail x y h1 h2 ih =>
    obtain ⟨q, hq, rfl, hr⟩ := ih
    rw [C.row q hq] at h2
    obtain ⟨z, hz, rfl⟩ := mem_gN.mp h2
    exact ⟨z, by rw [← hl]; exact hw.lt hz, rfl, .tail hr hz⟩
theorem cal_finds : Called n ns (finds w) (finds v) := by
  have hv := cal_web N hw hl C
  refine ⟨by rw [finds_len, C.len], fun p hp => ?_⟩
  have P := finds_pre hw
  refine asc_uniq ((finds_pre hv).pw _) (gN_pw N ((P.pw p).imp fun h => Nat.ne_of_lt h) fun y hy => by rw [← hl]; exact (P.lt _ _ hy).2) fun z => ?_
  rw [mem_finds hv, mem_gN, C.len]
  constructor
  · rintro ⟨_, h⟩
    obtain ⟨q, hq, e, hr⟩ := cal_rch' N hw hl C hp h
    exact ⟨q, (mem_finds hw).mpr ⟨by rw [hl]; exact hp, hr⟩, e⟩
  · rintro ⟨y, hy, rfl⟩
    exact ⟨nm_lt N hp, cal_rch N hw hl C hp ((mem_finds hw).mp hy).2⟩
theorem cal_both : Called n ns (both w) (both v) := by
  have hv := cal_web N hw hl C
  have hb := both_web hw
  refine ⟨by rw [both_len, C.len], fun p hp => ?_⟩
  refine asc_uniq ((both_web hv).pw _) (gN_pw N (hb.nd p) fun y hy => by have := hb.lt hy; rw [both_len] at this; omega) fun z => ?_
  rw [mem_both hv, mem_gN]
  constructor
  · intro h
    have hz : z < n := by
      rw [← C.len]
      exact h.elim (fun h => hv.lt h) fun h => Web.lt1 h
    obtain ⟨y, hy, rfl⟩ := nm_onto N hz
    refine ⟨y, (mem_both hw).mpr ?_, rfl⟩
    exact h.imp (cal_mem N hw hl C hp hy).mp (cal_mem N hw hl C hy hp).mp
  · rintro ⟨y, hy, rfl⟩
    have hyn : y < n := by have := hb.lt hy; rw [both_len] at this; omega
    exact ((mem_both hw).mp hy).imp (cal_mem N hw hl C hp hyn).mpr (cal_mem N hw hl C hyn hp).mpr
theorem cal_cls {p : Nat} (hp : p < n) : cls (finds v) (nm ns p) = gN ns (cls (finds w) p) := by
  have hv := cal_web N hw hl C
  have CF := cal_finds N hw hl C
  have P := finds_pre hw
  have hlt : ∀ p y, y ∈ nbr (finds w) p → p < n ∧ y < n := fun p y h => by have := P.lt _ _ h; rw [hl] at this; exact this
  have key : ∀ p y, p < n → y < n → (nm ns y ∈ nbr (finds v) (nm ns p) ↔ y ∈ nbr (finds w) p) := fun p y hp hy => by
    rw [CF.row p hp, mem_gN]
    constructor
    · rintro ⟨z, hz, e⟩
      rw [← nm_inj N (hlt _ _ hz).2 hy e]; exact hz
    · intro h; exact ⟨y, h, rfl⟩
  refine asc_uniq (cls_pw (finds_pre hv) _) (gN_pw N ((cls_pw P p).imp fun h => Nat.ne_of_lt h) fun y hy => (hlt _ _ (mem_cls.mp hy).1).2) fun z => ?_
  rw [mem_cls, mem_gN]
  constructor
  · rintro ⟨h1, h2⟩
    have hz := ((finds_pre hv).lt _ _ h1).2
    rw [C.len] at hz
    obtain ⟨y, hy, rfl⟩ := nm_onto N hz
    exact ⟨y, mem_cls.mpr ⟨(key p y hp hy).mp h1, (key y p hy hp).mp h2⟩, rfl⟩
  · rintro ⟨y, hy, rfl⟩
    obtain ⟨h1, h2⟩ := mem_cls.mp hy
    have hy := (hlt _ _ h1).2
    exact ⟨(key p y hp hy).mpr h1, (key y p hy hp).mpr h2⟩
theorem cal_pieces : sortT (pieces0 v) = sortT ((sortT (pieces0 w)).map (gN ns)) := by
  have CB := cal_finds N (both_web hw) (by rw [both_len, hl]) (cal_both N hw hl C)
  have L1 : Lots n (pc w) (pieces0 w) := hl ▸ pieces0_lots w
  have L2 : Lots n (pc v) (pieces0 v) := by have := pieces0_lots v; rwa [C.len] at this
  rw [lots_called N L1 L2 (fun p hp => ⟨pc_pw hw p, fun y hy => by rw [← hl]; exact (pc_lt hw hy).2⟩) fun p hp => CB.row p hp]
  exact sortT_eq ((sortT_perm _).map _).symm
theorem cal_knots : sortT (knots0 (finds v) (List.range v.length)) = sortT ((sortT (knots0 (finds w) (List.range w.length))).map (gN ns)) := by
  rw [C.len, hl]
  rw [lots_called N (knots0_lots (finds w) n) (knots0_lots (finds v) n) (fun p hp => ⟨cls_pw (finds_pre hw) p, fun y hy => by rw [← hl]; exact ((finds_pre hw).lt _ _ (mem_cls.mp hy).1).2⟩) fun p hp => cal_cls N hw hl C hp]
  exact sortT_eq ((sortT_perm _).map _).symm
end
/-! ### cards turned about -/
def about (w : List (List Nat)) : List (List Nat) := rows w.length fun p y => decide (p ∈ nbr w y)
theorem about_len (w : List (List Nat)) : (about w).length = w.length := rows_len ..
section
variable {w : List (List Nat)} (hw : Web w)
include hw
theorem about_web : Web (about w) := rows_web hw.lo hw.hi fun p => decide_eq_false fun h => hw.ne h rfl
theorem mem_about {p y : Nat} : y ∈ nbr (about w) p ↔ p ∈ nbr w y := by
  constructor
  · intro h
    have hp := Web.lt1 h
    rw [about_len] at hp
    exact of_decide_eq_true ((mem_rows hp).mp h).2
  · intro h
    exact (mem_rows (hw.lt h)).mpr ⟨Web.lt1 h, decide_eq_true h⟩
theorem about_rch {p q : Nat} (h : Rch (about w) p q) : Rch w q p := by
  induction h with
  | refl => exact .refl
  | tail h1 h2 ih => exact Rch.trans (.tail .refl ((mem_about hw).mp h2)) ih
theorem about_rch' {p q : Nat} (h : Rch w p q) : Rch (about w) q p := by
  induction h with
  | refl => exact .refl
  | tail h1 h2 ih => exact Rch.trans (.tail .refl ((mem_about hw).mpr h2)) ih
theorem about_cls {p : Nat} : cls (finds (about w)) p = cls (finds w) p := by
  have ha := about_web hw
  refine asc_uniq (cls_pw (finds_pre ha) p) (cls_pw (finds_pre hw) p) fun z => ?_
  rw [mem_cls, mem_cls, mem_finds ha, mem_finds ha, mem_finds hw, mem_finds hw, about_len]
  constructor
  · rintro ⟨⟨h1, h2⟩, h3, h4⟩
    exact ⟨⟨h1, about_rch hw h4⟩, h3, about_rch hw h2⟩
  · rintro ⟨⟨h1, h2⟩, h3, h4⟩
    exact ⟨⟨h1, about_rch' hw h4⟩, h3, about_rch' hw h2⟩
theorem about_knots : sortT (knots0 (finds (about w)) (List.range (about w).length)) = sortT (knots0 (finds w) (List.range w.length)) := by
  rw [about_len]
  refine Lots.sort (n := w.length) (c := cls (finds w)) ?_ (knots0_lots _ _)
  have h := knots0_lots (finds (about w)) w.length
  exact ⟨h.nd, fun a => (h.mem a).trans ⟨fun ⟨p, hp, e⟩ => ⟨p, hp, by rw [e, about_cls hw]⟩, fun ⟨p, hp, e⟩ => ⟨p, hp, by rw [e, about_cls hw]⟩⟩⟩
/-! ### a knot lies in one piece -/
theorem knot_piece {K : List (List Nat)} (L : Lots w.length (pc w) K) {p : Nat} (hp : p < w.length) : (K.filter fun a => (cls (finds w) p).all fun y => decide (y ∈ a)).length = 1 := by
  have h := perm_of (xs := K.filter fun a => (cls (finds w) p).all fun y => decide (y ∈ a)) (ys := [pc w p]) (L.nd.sublist List.filter_sublist) (by simp) fun a => ?_
  · exact h
  · rw [List.mem_filter, List.all_eq_true, List.mem_singleton]
    constructor
    · rintro ⟨ha, hk⟩
      obtain ⟨r, hr, rfl⟩ := (L.mem a).mp ha
      have := of_decide_eq_true (hk p (self_cls (finds_pre hw) hp))
      exact (pc_eq hw this).symm
    · rintro rfl
      refine ⟨(L.mem _).mpr ⟨p, hp, rfl⟩, fun y hy => decide_eq_true ?_⟩
      obtain ⟨h1, h2⟩ := (mem_finds hw).mp (mem_cls.mp hy).1
      exact (mem_pc hw).mpr ⟨hp, rch_both hw h2⟩
end
end Ww
end
set_option Elab.async false
set_option linter.all false
set_option autoImplicit false
set_option maxRecDepth 100000
set_option maxHeartbeats 1000000
/-! A card more; names that spread: plain Lean. -/
noncomputable section
namespace Ww
open Mi
structure More (w m : List (List Nat)) (i c : Nat) : Prop where
  len : m.length = w.length
  mem : ∀ p y, y ∈ nbr m p ↔ y ∈ nbr w p ∨ (p = i ∧ y = c)
section
variable {w m : List (List Nat)} {i c : Nat} (hw : Web w) (hm : Web m) (M : More w m i c)
include M
theorem more_rch {p q : Nat} (h : Rch w p q) : Rch m p q := by
  induction h with
  | refl => exact .refl
  | tail h1 h2 ih => exact .tail ih ((M.mem _ _).mpr (.inl h2))
include hw hm
theorem more_finds {p y : Nat} (h : y ∈ nbr (finds w) p) : y ∈ nbr (finds m) p := by
  obtain ⟨h1, h2⟩ := (mem_finds hw).mp h
  exact (mem_finds hm).mpr ⟨by rw [M.len]; exact h1, more_rch M h2⟩
theorem more_card (hi : i < w.length) : c ∈ nbr (finds m) i := (mem_finds hm).mpr ⟨by rw [M.len]; exact hi, .tail .refl ((M.mem _ _).mpr (.inr ⟨rfl, rfl⟩))⟩
theorem more_both {p y : Nat} : y ∈ nbr (both m) p ↔ y ∈ nbr (both w) p ∨ (p = i ∧ y = c) ∨ (p = c ∧ y = i) := by
  rw [mem_both hm, mem_both hw, M.mem, M.mem]
  constructor
  · rintro ((h | h) | (h | h))
    · exact .inl (.inl h)
    · exact .inr (.inl h)
    · exact .inl (.inr h)
    · exact .inr (.inr ⟨h.2, h.1⟩)
  · rintro ((h | h) | (h | h))
    · exact .inl (.inl h)
    · exact .inr (.inl h)
    · exact .inl (.inr h)
    · exact .inr (.inr ⟨h.2, h.1⟩)
theorem more_bm {p q : Nat} (h : Rch (both w) p q) : Rch (both m) p q := by
  induction h with
  | refl => exact .refl
  | tail h1 h2 ih => exact .tail ih ((more_both hw hm M).mpr (.inl h2))
theorem more_con {p q : Nat} : Rch (both m) p q ↔ Rch (both w) p q ∨ (Rch (both w) p i ∧ Rch (both w) c q) ∨ (Rch (both w) p c ∧ Rch (both w) i q) := by
  constructor
  · intro h
    induction h with
    | refl => exact .inl .refl
    | @tail x y h1 h2 ih =>
      rcases (more_both hw hm M).mp h2 with h2 | ⟨rfl, rfl⟩ | ⟨rfl, rfl⟩
      · rcases ih with ih | ⟨a, b⟩ | ⟨a, b⟩
        · exact .inl (.tail ih h2)
        · exact .inr (.inl ⟨a, .tail b h2⟩)
        · exact .inr (.inr ⟨a, .tail b h2⟩)
      · rcases ih with ih | ⟨a, b⟩ | ⟨a, b⟩
        · exact .inr (.inl ⟨ih, .refl⟩)
        · exact .inr (.inl ⟨a, .refl⟩)
        · exact .inl a
      · rcases ih with ih | ⟨a, b⟩ | ⟨a, b⟩
        · exact .inr (.inr ⟨ih, .refl⟩)
        · exact .inl a
        · exact .inr (.inr ⟨a, .refl⟩)
  · rintro (h | ⟨a, b⟩ | ⟨a, b⟩)
    · exact more_bm hw hm M h
    · exact ((more_bm hw hm M a).trans (.tail .refl ((more_both hw hm M).mpr (.inr (.inl ⟨rfl, rfl⟩))))).trans (more_bm hw hm M b)
    · exact ((more_bm hw hm M a).trans (.tail .refl ((more_both hw hm M).mpr (.inr (.inr ⟨rfl, rfl⟩))))).trans (more_bm hw hm M b)
end
/-! ### how many pieces: the least ones -/
def isMin (w : List (List Nat)) (p : Nat) : Bool := decide (∀ q ∈ pc w p, p ≤ q)
def mins (w : List (List Nat)) : List Nat := (List.range w.length).filter (isMin w)
section
variable {w : List (List Nat)} (hw : Web w)
include hw
theorem pc_least {p : Nat} (hp : p < w.length) : hd0 (pc w p) ∈ pc w p ∧ ∀ q ∈ pc w p, hd0 (pc w p) ≤ q := by
  have h1 := pc_self hw hp
  have h2 := pc_pw hw p
  cases hc : pc w p with
  | nil => rw [hc] at h1; exact nomatch h1
  | cons x xs =>
    rw [hc, List.pairwise_cons] at h2
    refine ⟨.head _, fun q hq => ?_⟩
    show x ≤ q
    rcases List.mem_cons.mp hq with rfl | hq
    · exact Nat.le_refl _
    · exact Nat.le_of_lt (h2.1 q hq)
theorem lots_mins {K : List (List Nat)} (L : Lots w.length (pc w) K) : K.length = (mins w).length := by
  have h : (K.map hd0).length = (mins w).length := by
    refine perm_of ?_ (List.nodup_range.sublist List.filter_sublist) fun p => ?_
    · refine List.pairwise_map.mpr (List.Pairwise.imp_of_mem (fun {a b} ha hb hne e => hne ?_) L.nd)
      obtain ⟨r, hr, rfl⟩ := (L.mem a).mp ha
      obtain ⟨s, hs, rfl⟩ := (L.mem b).mp hb
      rw [← pc_eq hw (pc_least hw hr).1, ← pc_eq hw (pc_least hw hs).1, e]
    · unfold mins
      rw [List.mem_map, List.mem_filter, List.mem_range]
      unfold isMin
      rw [decide_eq_true_eq]
      constructor
      · rintro ⟨a, ha, rfl⟩
        obtain ⟨r, hr, rfl⟩ := (L.mem a).mp ha
        obtain ⟨k1, k2⟩ := pc_least hw hr
        refine ⟨(pc_lt hw k1).2, ?_⟩
        rw [pc_eq hw k1]
        exact k2
      · rintro ⟨hp, hmin⟩
        refine ⟨pc w p, (L.mem _).mpr ⟨p, hp, rfl⟩, ?_⟩
        obtain ⟨k1, k2⟩ := pc_least hw hp
        have a1 := k2 p (pc_self hw hp)
        have a2 := hmin _ k1
        omega
  rwa [List.length_map] at h
end
theorem len_but {xs : List Nat} (h : xs.Nodup) {x : Nat} (hx : x ∈ xs) : xs.length = (xs.filter fun y => decide (y ≠ x)).length + 1 := by
  have := perm_of (xs := xs) (ys := x :: xs.filter fun y => decide (y ≠ x)) h (List.nodup_cons.mpr ⟨fun q => (of_decide_eq_true (List.mem_filter.mp q).2) rfl, h.sublist List.filter_sublist⟩) fun y => by
    rw [List.mem_cons, List.mem_filter, decide_eq_true_eq]
    constructor
    · intro q
      by_cases e : y = x
      · exact .inl e
      · exact .inr ⟨q, e⟩
    · rintro (rfl | q)
      · exact hx
      · exact q.1
  rwa [List.length_cons] at this
theorem more_count {w m : List (List Nat)} {i c : Nat} (hw : Web w) (hm : Web m) (M : More w m i c) (hi : i < w.length) (hc : c < w.length) : (mins w).length = (mins m).length ∨ (mins w).length = (mins m).length + 1 := by
  have con := fun p q => more_con hw hm M (p := p) (q := q)
  by_cases h : Rch (both w) i c
  · left
    have hs : ∀ p q, Rch (both m) p q ↔ Rch (both w) p q := fun p q => by
      rw [con]
      constructor
      · rintro (k | ⟨a, b⟩ | ⟨a, b⟩)
        · exact k
        · exact (a.trans h).trans b
        · exact (a.trans (both_sym hw h)).trans b
      · exact .inl
    unfold mins
    rw [M.len]
    congr 1
    apply List.filter_congr
    intro p _
    unfold isMin
    rw [decide_eq_decide]
    constructor
    · intro k q hq
      refine k q ((mem_pc hw).mpr ?_)
      obtain ⟨a, b⟩ := (mem_pc hm).mp hq
      rw [M.len] at a
      exact ⟨a, (hs _ _).mp b⟩
    · intro k q hq
      refine k q ((mem_pc hm).mpr ?_)
      obtain ⟨a, b⟩ := (mem_pc hw).mp hq
      exact ⟨by rw [M.len]; exact a, (hs _ _).mpr b⟩
  · right
    obtain ⟨a1, a2⟩ := pc_least hw hi
    obtain ⟨b1, b2⟩ := pc_least hw hc
    generalize hd0 (pc w i) = A at a1 a2
    generalize hd0 (pc w c) = B at b1 b2
    have rA := ((mem_pc hw).mp a1).2
    have rB := ((mem_pc hw).mp b1).2
    have hA := (pc_lt hw a1).2
    have hB := (pc_lt hw b1).2
    have hAB : A ≠ B := fun e => h (rA.trans (by rw [e]; exact both_sym hw rB))
    have minA : ∀ q, Rch (both w) A q → A ≤ q := fun q hq => a2 q ((mem_pc hw).mpr ⟨hi, rA.trans hq⟩)
    have minB : ∀ q, Rch (both w) B q → B ≤ q := fun q hq => b2 q ((mem_pc hw).mpr ⟨hc, rB.trans hq⟩)
    have inw : ∀ p, p ∈ mins w ↔ p < w.length ∧ ∀ q, Rch (both w) p q → p ≤ q := fun p => by
      unfold mins isMin
      rw [List.mem_filter, List.mem_range, decide_eq_true_eq]
      constructor
      · rintro ⟨k1, k2⟩; exact ⟨k1, fun q hq => k2 q ((mem_pc hw).mpr ⟨k1, hq⟩)⟩
      · rintro ⟨k1, k2⟩; exact ⟨k1, fun q hq => k2 q ((mem_pc hw).mp hq).2⟩
    have inm : ∀ p, p ∈ mins m ↔ p < w.length ∧ ∀ q, Rch (both m) p q → p ≤ q := fun p => by
      unfold mins isMin
      rw [List.mem_filter, List.mem_range, decide_eq_true_eq, M.len]
      constructor
      · rintro ⟨k1, k2⟩; exact ⟨k1, fun q hq => k2 q ((mem_pc hm).mpr ⟨by rw [M.len]; exact k1, hq⟩)⟩
      · rintro ⟨k1, k2⟩; exact ⟨k1, fun q hq => k2 q ((mem_pc hm).mp hq).2⟩
    have hx : max A B ∈ mins w := by
      rcases Nat.le_total A B with q | q
      · rw [Nat.max_eq_right q]; exact (inw B).mpr ⟨hB, minB⟩
      · rw [Nat.max_eq_left q]; exact (inw A).mpr ⟨hA, minA⟩
    have iA : Rch (both m) A B := (con A B).mpr (.inr (.inl ⟨both_sym hw rA, rB⟩))
    have iB : Rch (both m) B A := (con B A).mpr (.inr (.inr ⟨both_sym hw rB, rA⟩))
    have e : mins m = (mins w).filter fun y => decide (y ≠ max A B) := by
      refine asc_uniq ((List.pairwise_lt_range (n := m.length)).sublist List.filter_sublist) (((List.pairwise_lt_range (n := w.length)).sublist List.filter_sublist).sublist List.filter_sublist) fun p => ?_
      rw [inm, List.mem_filter, inw, decide_eq_true_eq]
      constructor
      · rintro ⟨k1, k2⟩
        refine ⟨⟨k1, fun q hq => k2 q ((con p q).mpr (.inl hq))⟩, fun ep => ?_⟩
        rcases Nat.le_total A B with q | q
        · rw [Nat.max_eq_right q] at ep
          have := k2 A (ep ▸ iB)
          omega
        · rw [Nat.max_eq_left q] at ep
          have := k2 B (ep ▸ iA)
          omega
      · rintro ⟨⟨k1, k2⟩, k3⟩
        refine ⟨k1, fun q hq => ?_⟩
        rcases (con p q).mp hq with k | ⟨k, l⟩ | ⟨k, l⟩
        · exact k2 q k
        · have pA : p ≤ A := k2 A (k.trans rA)
          have Ap : A ≤ p := minA p ((both_sym hw rA).trans (both_sym hw k))
          have eA : p = A := Nat.le_antisymm pA Ap
          have Bq : B ≤ q := minB q ((both_sym hw rB).trans l)
          have : A < B := by
            rcases Nat.lt_or_ge A B with z | z
            · exact z
            · rw [Nat.max_eq_left z] at k3; exact absurd eA k3
          omega
        · have pB : p ≤ B := k2 B (k.trans rB)
          have Bp : B ≤ p := minB p ((both_sym hw rB).trans (both_sym hw k))
          have eB : p = B := Nat.le_antisymm pB Bp
          have Aq : A ≤ q := minA q ((both_sym hw rA).trans l)
          have : B < A := by
            rcases Nat.lt_or_ge B A with z | z
            · exact z
            · rw [Nat.max_eq_right z] at k3; exact absurd eB k3
          omega
    rw [e]
    exact len_but (List.nodup_range.sublist List.filter_sublist) hx
/-! ### names that spread -/
def nstep (names : List Nat) (p o : Nat) : List Nat := names.map fun x => if x = nm names p ∨ x = nm names o then min (nm names p) (nm names o) else x
structure Nam (w : List (List Nat)) (done : List (Nat × Nat)) (names : List Nat) : Prop where
  len : names.length = w.length
  con : ∀ p < w.length, nm names p < w.length ∧ Rch (both w) p (nm names p)
  eq : ∀ c ∈ done, nm names c.1 = nm names c.2
theorem nstep_at {names : List Nat} {p o q : Nat} (hq : q < names.length) : nm (nstep names p o) q = if nm names q = nm names p ∨ nm names q = nm names o then min (nm names p) (nm names o) else nm names q := by
  show (nstep names p o).getD q default = _
  unfold nstep
  rw [List.getD_eq_getElem?_getD, List.getElem?_map, List.getElem?_eq_getElem hq]
  show (if names[q] = _ ∨ names[q] = _ then _ else names[q]) = _
  have : nm names q = names[q] := by
    show names.getD q default = _
    rw [List.getD_eq_getElem?_getD, List.getElem?_eq_getElem hq]; rfl
  rw [← this]
theorem nam_start {w : List (List Nat)} : Nam w [] (List.range w.length) := by
  have e : ∀ p < w.length, nm (List.range w.length) p = p := fun p hp => by
    show (List.range w.length).getD p default = _
    rw [List.getD_eq_getElem?_getD, List.getElem?_range hp]; rfl
  exact ⟨List.length_range, fun p hp => by rw [e p hp]; exact ⟨hp, .refl⟩, fun c hc => nomatch hc⟩
theorem nam_step {w : List (List Nat)} (hw : Web w) {done : List (Nat × Nat)} {names : List Nat} (h : Nam w done names) (hd : ∀ c ∈ done, c.1 < w.length ∧ c.2 < w.length) {p o : Nat} (ho : o ∈ nbr w p) : Nam w (done ++ [(p, o)]) (nstep names p o) := by
  have hp := Web.lt1 ho
  have hol := hw.lt ho
  have hpo : Rch (both w) p o := .tail .refl ((mem_both hw).mpr (.inl ho))
  obtain ⟨p1, p2⟩ := h.con p hp
  obtain ⟨o1, o2⟩ := h.con o hol
  refine ⟨by unfold nstep; rw [List.length_map]; exact h.len, fun q hq => ?_, fun c hc => ?_⟩
  · obtain ⟨q1, q2⟩ := h.con q hq
    rw [nstep_at (by rw [h.len]; exact hq)]
    split
    · rename_i k
      have c1 : Rch (both w) q (nm names p) := by
        rcases k with k | k
        · rw [← k]; exact q2
        · exact ((by rw [← k]; exact q2 : Rch (both w) q (nm names o)).trans (both_sym hw o2)).trans ((both_sym hw hpo).trans p2)
      have c2 : Rch (both w) q (nm names o) := (c1.trans (both_sym hw p2)).trans (hpo.trans o2)
      rcases Nat.le_total (nm names p) (nm names o) with z | z
      · rw [Nat.min_eq_left z]; exact ⟨p1, c1⟩
      · rw [Nat.min_eq_right z]; exact ⟨o1, c2⟩
    · exact ⟨q1, q2⟩
  · rcases List.mem_append.mp hc with hc | hc
    · obtain ⟨d1, d2⟩ := hd c hc
      rw [nstep_at (by rw [h.len]; exact d1), nstep_at (by rw [h.len]; exact d2), h.eq c hc]
    · have : c = (p, o) := by simpa using hc
      subst this
      rw [nstep_at (by rw [h.len]; exact hp), nstep_at (by rw [h.len]; exact hol), if_pos (.inl rfl), if_pos (.inr rfl)]
theorem nam_iff {w : List (List Nat)} (hw : Web w) {done : List (Nat × Nat)} {names : List Nat} (h : Nam w done names) (hall : ∀ p y, y ∈ nbr w p → (p, y) ∈ done) {p q : Nat} (hp : p < w.length) (hq : q < w.length) : nm names p = nm names q ↔ Rch (both w) p q := by
  constructor
  · intro e
    exact (h.con p hp).2.trans (by rw [e]; exact both_sym hw (h.con q hq).2)
  · intro r
    clear hq
    induction r with
    | refl => rfl
    | tail h1 h2 ih =>
      rw [ih]
      rcases (mem_both hw).mp h2 with k | k
      · exact h.eq _ (hall _ _ k)
      · exact (h.eq _ (hall _ _ k)).symm
def nlot (n : Nat) (names : List Nat) (z : Nat) : List Nat := (List.range n).filter fun p => decide (nm names p = z)
theorem nam_lots {w : List (List Nat)} (hw : Web w) {names : List Nat} (hlen : names.length = w.length) (h : ∀ p q, p < w.length → q < w.length → (nm names p = nm names q ↔ Rch (both w) p q)) {out : List Nat} (ho : out.Pairwise (· < ·)) (hm : ∀ k, k ∈ out ↔ k ∈ names) : Lots w.length (pc w) (out.map (nlot w.length names)) := by
  have at_ : ∀ k, k ∈ out ↔ ∃ p < w.length, nm names p = k := fun k => by
    rw [hm]
    constructor
    · intro hk
      obtain ⟨p, hp, e⟩ := List.getElem_of_mem hk
      refine ⟨p, by rw [← hlen]; exact hp, ?_⟩
      show names.getD p default = k
      rw [List.getD_eq_getElem?_getD, List.getElem?_eq_getElem hp]; exact e
    · rintro ⟨p, hp, rfl⟩
      show names.getD p default ∈ names
      rw [List.getD_eq_getElem?_getD, List.getElem?_eq_getElem (by rw [hlen]; exact hp)]
      exact List.getElem_mem _
  have lot : ∀ p < w.length, nlot w.length names (nm names p) = pc w p := fun p hp => by
    refine asc_uniq (List.pairwise_lt_range.sublist List.filter_sublist) (pc_pw hw p) fun q => ?_
    unfold nlot
    rw [List.mem_filter, List.mem_range, decide_eq_true_eq, mem_pc hw]
    constructor
    · rintro ⟨hq, e⟩
      exact ⟨hp, (h p q hp hq).mp e.symm⟩
    · rintro ⟨_, r⟩
      have hq := (pc_lt hw ((mem_pc hw).mpr ⟨hp, r⟩)).2
      exact ⟨hq, ((h p q hp hq).mpr r).symm⟩
  refine ⟨?_, fun a => ?_⟩
  · refine List.pairwise_map.mpr (List.Pairwise.imp_of_mem (fun {x y} hx hy hlt e => ?_) ho)
    obtain ⟨p, hp, rfl⟩ := (at_ x).mp hx
    obtain ⟨q, hq, rfl⟩ := (at_ y).mp hy
    rw [lot p hp, lot q hq] at e
    have : q ∈ pc w p := by rw [e]; exact pc_self hw hq
    have := (h p q hp hq).mpr ((mem_pc hw).mp this).2
    omega
  · rw [List.mem_map]
    constructor
    · rintro ⟨x, hx, rfl⟩
      obtain ⟨p, hp, rfl⟩ := (at_ x).mp hx
      exact ⟨p, hp, lot p hp⟩
    · rintro ⟨p, hp, rfl⟩
      exact ⟨nm names p, (at_ _).mpr ⟨p, hp, rfl⟩, lot p hp⟩
end Ww
end
set_option Elab.async false
set_option linter.all false
set_option autoImplicit false
set_option maxRecDepth 100000
noncomputable section
namespace K02
open PySem Mi
/-- turns of a while at most -/
abbrev fuel : Nat := 100
-- slots of is_integer: 0 thing
@[reducible] def b_is_integer : S :=
  (sRet (eAnd (eIsi "int" (eVar 0)) (eB (tNot (tE (eIsi "bool" (eVar 0)))))))
def f_is_integer : Fn := fun ds => scp (runB 1 b_is_integer ds)
-- slots of is_between: 0 thing, 1 least, 2 most
@[reducible] def b_is_between : S :=
  (sRet (eAnd (eCall f_is_integer (eCons (eVar 0) eNil)) (eB (tChain dLe dLe (eVar 1) (eVar 0) (eVar 2)))))
def f_is_between : Fn := fun ds => scp (runB 3 b_is_between ds)
-- slots of is_index: 0 thing, 1 many
@[reducible] def b_is_index : S :=
  (sRet (eCall f_is_between (eCons (eVar 0) (eCons (eC (dN 0)) (eCons (eBin oSub (eVar 1) (eC (dN 1))) eNil)))))
def f_is_index : Fn := fun ds => scp (runB 2 b_is_index ds)
-- slots of are_ascending: 0 things, 1 one, 2 other
@[reducible] def b_are_ascending : S :=
  (sRet (eU' gAll (eL (lComp (iZip (eVar 0) (eSl (eVar 0) (pAt (eC (dN 1))) pNo)) (gSet2 1 2) tYes (eB (tCmp dLt (eVar 1) (eVar 2))) [1, 2]))))
def f_are_ascending : Fn := fun ds => scp (runB 3 b_are_ascending ds)
-- slots of is_pocket: 0 thing, 1 person, 2 many, 3 other
@[reducible] def b_is_pocket : S :=
  (sSeq (sIf (tOr (tNot (tE (eIsi "tuple" (eVar 0)))) (tNot (tE (eU' gAll (eL (lComp (iOf (eVar 0)) (gVar 3) tYes (eCall f_is_index (eCons (eVar 3) (eCons (eVar 2) eNil))) [3])))))) (sRet (eC (.bl false))) sSkip)
      (sRet (eAnd (eCall f_are_ascending (eCons (eVar 0) eNil)) (eB (tCmp dNotIn (eVar 1) (eVar 0))))))
def f_is_pocket : Fn := fun ds => scp (runB 4 b_is_pocket ds)
-- slots of is_web: 0 thing, 1 person, 2 pocket
@[reducible] def b_is_web : S :=
  (sSeq (sIf (tOr (tNot (tE (eIsi "tuple" (eVar 0)))) (tNot (tChain dLe dLe (eC (dN 1)) (eU' gLen (eVar 0)) (eC (dN 9))))) (sRet (eC (.bl false))) sSkip)
      (sRet (eU' gAll (eL (lComp (iEnum (eVar 0)) (gSet2 1 2) tYes (eCall f_is_pocket (eCons (eVar 2) (eCons (eVar 1) (eCons (eU' gLen (eVar 0)) eNil)))) [1, 2])))))
def f_is_web : Fn := fun ds => scp (runB 3 b_is_web ds)
-- slots of check_web: 0 thing
@[reducible] def b_check_web : S :=
  (sIf (tNot (tE (eCall f_is_web (eCons (eVar 0) eNil)))) (sRaise "NoWeb") sSkip)
def f_check_web : Fn := fun ds => scp (runB 1 b_check_web ds)
-- slots of found_from: 0 web, 1 person, 2 found, 3 at, 4 other
@[reducible] def b_found_from : S :=
  (sSeq (sSet 2 (eNew (lDisp (eCons (eVar 1) eNil))))
      (sSeq (sSet 3 (eC (dN 0)))
      (sSeq (sWhile fuel (tCmp dLt (eVar 3) (eU' gLen (eVar 2))) (sSeq (sExt (eVar 2) (eL (lComp (iOf (eIx (eVar 0) (eIx (eVar 2) (eVar 3)))) (gVar 4) (tCmp dNotIn (eVar 4) (eVar 2)) (eVar 4) [4])))
      (sAug 3 oAddI (eC (dN 1)))))
      (sRet (eVar 2)))))
def f_found_from : Fn := fun ds => scp (runB 5 b_found_from ds)
-- slots of raw_finds: 0 web, 1 person
@[reducible] def b_raw_finds : S :=
  (sRet (eU' Mi.gTup (eL (lComp (iRange (eU' gLen (eVar 0))) (gVar 1) tYes (eU' Mi.gTup (eL (lSort (eCall f_found_from (eCons (eVar 0) (eCons (eVar 1) eNil)))))) [1]))))
def f_raw_finds : Fn := fun ds => scp (runB 2 b_raw_finds ds)
-- slots of finds: 0 web
@[reducible] def b_finds : S :=
  (sSeq (sExpr (eCall f_check_web (eCons (eVar 0) eNil)))
      (sRet (eCall f_raw_finds (eCons (eVar 0) eNil))))
def f_finds : Fn := fun ds => scp (runB 1 b_finds ds)
-- slots of tied: 0 web, 1 one, 2 other
@[reducible] def b_tied : S :=
  (sRet (eOr (eB (tCmp dIn (eVar 2) (eIx (eVar 0) (eVar 1)))) (eB (tCmp dIn (eVar 1) (eIx (eVar 0) (eVar 2))))))
def f_tied : Fn := fun ds => scp (runB 3 b_tied ds)
-- slots of both_ways: 0 web, 1 people, 2 other, 3 person
@[reducible] def b_both_ways : S :=
  (sSeq (sSet 1 (eL (lRange (eU' gLen (eVar 0)))))
      (sRet (eU' Mi.gTup (eL (lComp (iOf (eVar 1)) (gVar 3) tYes (eU' Mi.gTup (eL (lComp (iOf (eVar 1)) (gVar 2) (tE (eCall f_tied (eCons (eVar 0) (eCons (eVar 3) (eCons (eVar 2) eNil))))) (eVar 2) [2]))) [3])))))
def f_both_ways : Fn := fun ds => scp (runB 4 b_both_ways ds)
-- slots of raw_pieces: 0 web, 1 lot
@[reducible] def b_raw_pieces : S :=
  (sRet (eU' Mi.gTup (eL (lSortK (eDctC (iOf (eCall f_raw_finds (eCons (eCall f_both_ways (eCons (eVar 0) eNil)) eNil))) (gVar 1) tYes (eVar 1) (eC (.bl true)) [1])))))
def f_raw_pieces : Fn := fun ds => scp (runB 2 b_raw_pieces ds)
-- slots of pieces: 0 web
@[reducible] def b_pieces : S :=
  (sSeq (sExpr (eCall f_check_web (eCons (eVar 0) eNil)))
      (sRet (eCall f_raw_pieces (eCons (eVar 0) eNil))))
def f_pieces : Fn := fun ds => scp (runB 1 b_pieces ds)
-- slots of raw_knots: 0 web, 1 found, 2 lots, 3 person, 4 other
@[reducible] def b_raw_knots : S :=
  (sSeq (sSet 1 (eCall f_raw_finds (eCons (eVar 0) eNil)))
      (sSeq (sSet 2 eDct0)
      (sSeq (sFor (iRange (eU' gLen (eVar 0))) (gVar 3) (sPutD (eVar 2) (eU' Mi.gTup (eL (lComp (iOf (eIx (eVar 1) (eVar 3))) (gVar 4) (tCmp dIn (eVar 3) (eIx (eVar 1) (eVar 4))) (eVar 4) [4]))) (eC (.bl true))))
      (sRet (eU' Mi.gTup (eL (lSortK (eVar 2))))))))
def f_raw_knots : Fn := fun ds => scp (runB 5 b_raw_knots ds)
-- slots of knots: 0 web
@[reducible] def b_knots : S :=
  (sSeq (sExpr (eCall f_check_web (eCons (eVar 0) eNil)))
      (sRet (eCall f_raw_knots (eCons (eVar 0) eNil))))
def f_knots : Fn := fun ds => scp (runB 1 b_knots ds)
-- slots of _law_bag: 0 script, 1 seed, 2 cell, 3 great, 4 always
@[reducible] def b__law_bag : S :=
  (sSeq (sSet 1 (eBin oAdd (eC (dN 41)) (eU' gLen (eVar 0))))
      (sSeq (sFor (iOf (eSl (eVar 0) pNo (pAt (eC (dN 63))))) (gVar 2) (sSet 1 (eBin oMod (eU' (gU uInt) (eBin oAdd (eBin oAdd (eBin oMul (eVar 1) (eC (dN 69621))) (eBin oMod (eU' (gU uInt) (eVar 2)) (eC (dN 1000003)))) (eC (dN 7)))) (eC (dN 2147483647)))))
      (sSeq (sSet 3 (eNew (lComp (iOf (eSl (eVar 0) pNo (pAt (eC (dN 63))))) (gVar 2) (tCmp dGe (eU' (gU uAbs) (eU' (gU uInt) (eVar 2))) (eBin oPow (eC (dN 10)) (eC (dN 18)))) (eU' (gU uAbs) (eU' (gU uInt) (eVar 2))) [2])))
      (sSeq (sSet 4 (eC .non))
      (sSeq (sIf (tAnd (tCmp dLt (eU' gLen (eVar 0)) (eC (dN 2))) (tCmp dEq (eU' gLen (eVar 3)) (eC (dN 0)))) (sSet 4 (eU' (gU uAbs) (eU' gSum (eL (lComp (iOf (eVar 0)) (gVar 2) tYes (eU' (gU uInt) (eVar 2)) [2]))))) sSkip)
      (sRet (eNew (lDisp (eCons (eVar 1) (eCons (eC (dN 1)) (eCons (eVar 3) (eCons (eVar 4) eNil))))))))))))
def f__law_bag : Fn := runB 5 b__law_bag
-- slots of _law_pick: 0 bag, 1 many, 2 great, 3 digit, 4 number
@[reducible] def b__law_pick : S :=
  (sSeq (sIf (tCmp dIsNotN' (eIx (eVar 0) (eC (dN 3))) (eC .non)) (sRet (eBin oMod (eU' (gU uInt) (eIx (eVar 0) (eC (dN 3)))) (eVar 1))) sSkip)
      (sSeq (sPut (eVar 0) (eC (dN 1)) (eBin oAdd (eIx (eVar 0) (eC (dN 1))) (eC (dN 1))))
      (sSeq (sSet 2 (eIx (eVar 0) (eC (dN 2))))
      (sSeq (sIf (tCmp dGt (eU' gLen (eVar 2)) (eC (dN 0))) (sSeq (sSet 3 (eBin oMod (eU' (gU uInt) (eIx (eVar 2) (eC (dN 0)))) (eVar 1)))
      (sSeq (sPut (eVar 2) (eC (dN 0)) (eBin oDiv (eU' (gU uInt) (eIx (eVar 2) (eC (dN 0)))) (eVar 1)))
      (sSeq (sIf (tCmp dEq (eIx (eVar 2) (eC (dN 0))) (eC (dN 0))) (sExpr (ePopAt (eVar 2) (eC (dN 0)))) sSkip)
      (sRet (eVar 3))))) sSkip)
      (sSeq (sSet 4 (eBin oMod (eU' (gU uInt) (eBin oMul (eBin oAdd (eIx (eVar 0) (eC (dN 0))) (eBin oMul (eC (dN 7919)) (eIx (eVar 0) (eC (dN 1))))) (eC (dN 48271)))) (eC (dN 2147483647))))
      (sSeq (sSet 4 (eBin oMod (eU' (gU uInt) (eBin oMul (eVar 4) (eBin oAdd (eBin oDiv (eVar 4) (eC (dN 1009))) (eC (dN 69621))))) (eC (dN 2147483647))))
      (sSeq (sSet 4 (eBin oMod (eU' (gU uInt) (eBin oMul (eVar 4) (eBin oAdd (eBin oDiv (eVar 4) (eC (dN 2003))) (eC (dN 40692))))) (eC (dN 2147483399))))
      (sRet (eBin oMod (eU' (gU uInt) (eBin oDiv (eVar 4) (eC (dN 16)))) (eVar 1))))))))))
def f__law_pick : Fn := fun ds => scp (runB 5 b__law_pick ds)
-- slots of _law_some: 0 bag, 1 things
@[reducible] def b__law_some : S :=
  (sRet (eIx (eVar 1) (eCall f__law_pick (eCons (eVar 0) (eCons (eU' gLen (eVar 1)) eNil)))))
def f__law_some : Fn := fun ds => scp (runB 2 b__law_some ds)
-- slots of _law_is: 0 thing, 1 due, 2 one, 3 other
@[reducible] def b__law_is (R : Fn) : S :=
  (sSeq (sIf (tE (eIsi2 "tuple" "list" (eVar 1))) (sSeq (sIf (tOr (tCmp dNe (eIsi "tuple" (eVar 0)) (eIsi "tuple" (eVar 1))) (tCmp dNe (eIsi "list" (eVar 0)) (eIsi "list" (eVar 1)))) (sRet (eC (.bl false))) sSkip)
      (sRet (eAnd (eB (tCmp dEq (eU' gLen (eVar 0)) (eU' gLen (eVar 1)))) (eU' gAll (eL (lComp (iZip (eVar 0) (eVar 1)) (gSet2 2 3) tYes (eCall R (eCons (eVar 2) (eCons (eVar 3) eNil))) [2, 3])))))) sSkip)
      (sRet (eAnd (eB (tCmp dEq (eIsi "bool" (eVar 0)) (eIsi "bool" (eVar 1)))) (eB (tCmp dEq (eVar 0) (eVar 1))))))
def f__law_is : Nat → Fn
  | 0 => fun _ => stuck
  | n + 1 => fun ds => scp (runB 4 (b__law_is (f__law_is n)) ds)
-- slots of _law_web: 0 bag, 1 most, 2 many, 3 share, 4 cards, 5 person, 6 way, 7 other, 8 pocket
@[reducible] def b__law_web : S :=
  (sSeq (sSet 2 (eBin oAdd (eC (dN 1)) (eCall f__law_pick (eCons (eVar 0) (eCons (eVar 1) eNil)))))
      (sSeq (sSet 3 (eCall f__law_some (eCons (eVar 0) (eCons (eL (lDisp (eCons (eC (dN 2)) (eCons (eC (dN 3)) (eCons (eC (dN 5)) (eCons (eC (dN 1)) (eCons (eC (dN 12)) (eCons (eC (dN 4)) eNil)))))))) eNil))))
      (sSeq (sSet 4 (eNew (lDisp eNil)))
      (sSeq (sFor (iRange (eVar 2)) (gVar 5) (sApp (eVar 4) (eL (lComp (iRange (eVar 2)) (gVar 7) (tAnd (tCmp dNe (eVar 7) (eVar 5)) (tCmp dEq (eCall f__law_pick (eCons (eVar 0) (eCons (eVar 3) eNil))) (eC (dN 0)))) (eVar 7) [7]))))
      (sSeq (sSet 6 (eCall f__law_pick (eCons (eVar 0) (eCons (eC (dN 6)) eNil))))
      (sSeq (sIf (tCmp dEq (eVar 6) (eC (dN 1))) (sSet 4 (eNew (lComp (iRange (eVar 2)) (gVar 5) tYes (eL (lComp (iOf (eL (lDisp (eCons (eBin oSub (eVar 5) (eC (dN 1))) (eCons (eBin oAdd (eVar 5) (eC (dN 1))) eNil))))) (gVar 7) (tChain dLe dLt (eC (dN 0)) (eVar 7) (eVar 2)) (eVar 7) [7])) [5]))) sSkip)
      (sSeq (sIf (tCmp dEq (eVar 6) (eC (dN 2))) (sSet 4 (eNew (lComp (iRange (eVar 2)) (gVar 5) tYes (eIf (tCmp dGt (eVar 2) (eC (dN 1))) (eL (lDisp (eCons (eBin oMod (eU' (gU uInt) (eBin oAdd (eVar 5) (eC (dN 1)))) (eVar 2)) eNil))) (eL (lDisp eNil))) [5]))) sSkip)
      (sSeq (sIf (tCmp dEq (eVar 6) (eC (dN 3))) (sSet 4 (eNew (lCompE (eVar 4) (gSet2 5 8) tYes (eIf (tCmp dEq (eBin oMod (eU' (gU uInt) (eVar 5)) (eC (dN 2))) (eC (dN 0))) (eVar 8) (eL (lDisp eNil))) [5, 8]))) sSkip)
      (sRet (eU' Mi.gTup (eL (lComp (iOf (eVar 4)) (gVar 8) tYes (eU' Mi.gTup (eVar 8)) [8]))))))))))))
def f__law_web : Fn := fun ds => scp (runB 9 b__law_web ds)
-- slots of _law_found: 0 web, 1 rows, 2 turn, 3 person, 4 other, 5 third, 6 row
@[reducible] def b__law_found : S :=
  (sSeq (sSet 1 (eL (lComp (iRange (eU' gLen (eVar 0))) (gVar 3) tYes (eDct1 false (eVar 3) (eC (.bl true))) [3])))
      (sSeq (sFor (iRange (eU' gLen (eVar 0))) (gVar 2) (sFor (iRange (eU' gLen (eVar 0))) (gVar 3) (sFor (iOf (eL (lKeys (eIx (eVar 1) (eVar 3))))) (gVar 4) (sFor (iOf (eIx (eVar 0) (eVar 4))) (gVar 5) (sPutD (eIx (eVar 1) (eVar 3)) (eVar 5) (eC (.bl true)))))))
      (sRet (eU' Mi.gTup (eL (lComp (iOf (eVar 1)) (gVar 6) tYes (eU' Mi.gTup (eL (lSortK (eVar 6)))) [6]))))))
def f__law_found : Fn := fun ds => scp (runB 7 b__law_found ds)
-- slots of _law_pieces: 0 web, 1 names, 2 turn, 3 person, 4 pocket, 5 other, 6 least, 7 name, 8 one
@[reducible] def b__law_pieces : S :=
  (sSeq (sSet 1 (eL (lRange (eU' gLen (eVar 0)))))
      (sSeq (sFor (iRange (eU' gLen (eVar 0))) (gVar 2) (sFor (iEnum (eVar 0)) (gSet2 3 4) (sFor (iOf (eVar 4)) (gVar 5) (sSeq (sSet 6 (eBin oMin (eIx (eVar 1) (eVar 3)) (eIx (eVar 1) (eVar 5))))
      (sSet 1 (eL (lComp (iOf (eVar 1)) (gVar 7) tYes (eIf (tCmp dIn (eVar 7) (eL (lDisp (eCons (eIx (eVar 1) (eVar 3)) (eCons (eIx (eVar 1) (eVar 5)) eNil))))) (eVar 6) (eVar 7)) [7])))))))
      (sRet (eU' Mi.gTup (eL (lSort (eL (lComp (iOf (eL (lSortSet (eVar 1)))) (gVar 7) tYes (eU' Mi.gTup (eL (lComp (iRange (eU' gLen (eVar 0))) (gVar 8) (tCmp dEq (eIx (eVar 1) (eVar 8)) (eVar 7)) (eVar 8) [8]))) [7]))))))))
def f__law_pieces : Fn := fun ds => scp (runB 9 b__law_pieces ds)
-- slots of _law_knots: 0 web, 1 rows, 2 lots, 3 person, 4 lot, 5 other
@[reducible] def b__law_knots : S :=
  (sSeq (sSet 1 (eCall f__law_found (eCons (eVar 0) eNil)))
      (sSeq (sSet 2 (eNew (lDisp eNil)))
      (sSeq (sFor (iRange (eU' gLen (eVar 0))) (gVar 3) (sSeq (sSet 4 (eU' Mi.gTup (eL (lComp (iOf (eIx (eVar 1) (eVar 3))) (gVar 5) (tCmp dIn (eVar 3) (eIx (eVar 1) (eVar 5))) (eVar 5) [5]))))
      (sIf (tCmp dNotIn (eVar 4) (eVar 2)) (sApp (eVar 2) (eVar 4)) sSkip)))
      (sRet (eU' Mi.gTup (eL (lSort (eVar 2))))))))
def f__law_knots : Fn := fun ds => scp (runB 6 b__law_knots ds)
-- slots of _law_are_kept: 0 here, 1 there, 2 one, 3 at, 4 lot
@[reducible] def b__law_are_kept : S :=
  (sRet (eU' gAll (eL (lComp (iEnum (eVar 0)) (gSet2 3 4) tYes (eU' gAll (eL (lComp (iOf (eVar 4)) (gVar 2) tYes (eB (tCmp dIn (eVar 2) (eIx (eVar 1) (eVar 3)))) [2]))) [3, 4]))))
def f__law_are_kept : Fn := fun ds => scp (runB 5 b__law_are_kept ds)
-- slots of _law_small: 0 number, 1 web, 2 person, 3 others, 4 bits, 5 other, 6 at
@[reducible] def b__law_small : S :=
  (sSeq (sSet 1 (eNew (lDisp eNil)))
      (sSeq (sFor (iRange (eC (dN 3))) (gVar 2) (sSeq (sSet 3 (eL (lComp (iRange (eC (dN 3))) (gVar 5) (tCmp dNe (eVar 5) (eVar 2)) (eVar 5) [5])))
      (sSeq (sSet 4 (eBin oMod (eU' (gU uInt) (eBin oDiv (eVar 0) (eIx (eL (lDisp (eCons (eC (dN 1)) (eCons (eC (dN 4)) (eCons (eC (dN 16)) eNil))))) (eVar 2)))) (eC (dN 4))))
      (sApp (eVar 1) (eU' Mi.gTup (eL (lComp (iEnum (eVar 3)) (gSet2 6 5) (tCmp dEq (eBin oMod (eU' (gU uInt) (eBin oDiv (eVar 4) (eBin oAdd (eC (dN 1)) (eVar 6)))) (eC (dN 2))) (eC (dN 1))) (eVar 5) [5, 6])))))))
      (sRet (eU' Mi.gTup (eVar 1)))))
def f__law_small : Fn := fun ds => scp (runB 7 b__law_small ds)
-- slots of _law_called: 0 web, 1 names, 2 made, 3 person, 4 pocket, 5 other
@[reducible] def b__law_called : S :=
  (sSeq (sSet 2 (eNew (lRep (eL (lDisp (eCons (eTup eNil) eNil))) (eU' gLen (eVar 0)))))
      (sSeq (sFor (iEnum (eVar 0)) (gSet2 3 4) (sPut (eVar 2) (eIx (eVar 1) (eVar 3)) (eU' Mi.gTup (eL (lSort (eL (lComp (iOf (eVar 4)) (gVar 5) tYes (eIx (eVar 1) (eVar 5)) [5])))))))
      (sRet (eU' Mi.gTup (eVar 2)))))
def f__law_called : Fn := fun ds => scp (runB 6 b__law_called ds)
-- slots of _law_lots: 0 lots, 1 names, 2 one, 3 lot
@[reducible] def b__law_lots : S :=
  (sRet (eU' Mi.gTup (eL (lSort (eL (lComp (iOf (eVar 0)) (gVar 3) tYes (eU' Mi.gTup (eL (lSort (eL (lComp (iOf (eVar 3)) (gVar 2) tYes (eIx (eVar 1) (eVar 2)) [2]))))) [3]))))))
def f__law_lots : Fn := fun ds => scp (runB 4 b__law_lots ds)
-- slots of _law_is_told: 0 web
@[reducible] def b__law_is_told : S :=
  (sSeq (sIf (tOr (tNot (tE (eCall (f__law_is 5) (eCons (eCall f_finds (eCons (eVar 0) eNil)) (eCons (eCall f__law_found (eCons (eVar 0) eNil)) eNil))))) (tNot (tE (eCall (f__law_is 5) (eCons (eCall f_pieces (eCons (eVar 0) eNil)) (eCons (eCall f__law_pieces (eCons (eVar 0) eNil)) eNil)))))) (sRet (eC (.bl false))) sSkip)
      (sRet (eCall (f__law_is 5) (eCons (eCall f_knots (eCons (eVar 0) eNil)) (eCons (eCall f__law_knots (eCons (eVar 0) eNil)) eNil)))))
def f__law_is_told : Fn := fun ds => scp (runB 1 b__law_is_told ds)
-- slots of _law_turned_about: 0 web, 1 one, 2 person
@[reducible] def b__law_turned_about : S :=
  (sRet (eU' Mi.gTup (eL (lComp (iRange (eU' gLen (eVar 0))) (gVar 2) tYes (eU' Mi.gTup (eL (lComp (iRange (eU' gLen (eVar 0))) (gVar 1) (tCmp dIn (eVar 2) (eIx (eVar 0) (eVar 1))) (eVar 1) [1]))) [2]))))
def f__law_turned_about : Fn := fun ds => scp (runB 3 b__law_turned_about ds)
-- slots of _law_right: 0 bag, 1 web, 2 many, 3 left, 4 names, 5 other, 6 person, 7 card, 8 pocket, 9 more, 10 knot, 11 piece, 12 one
@[reducible] def b__law_right : S :=
  (sSeq (sSet 2 (eU' gLen (eVar 1)))
      (sSeq (sPar 3 4 (eCons (eNew (lRange (eVar 2))) (eCons (eNew (lDisp eNil)) eNil)))
      (sSeq (sWhile fuel (tCmp dGt (eU' gLen (eVar 3)) (eC (dN 0))) (sApp (eVar 4) (ePopAt (eVar 3) (eCall f__law_pick (eCons (eVar 0) (eCons (eU' gLen (eVar 3)) eNil))))))
      (sSeq (sSet 5 (eCall f__law_called (eCons (eVar 1) (eCons (eVar 4) eNil))))
      (sSeq (sIf (tOr (tCmp dNe (eCall f_finds (eCons (eVar 5) eNil)) (eCall f__law_called (eCons (eCall f_finds (eCons (eVar 1) eNil)) (eCons (eVar 4) eNil)))) (tCmp dNe (eCall f_pieces (eCons (eVar 5) eNil)) (eCall f__law_lots (eCons (eCall f_pieces (eCons (eVar 1) eNil)) (eCons (eVar 4) eNil))))) (sRet (eC (.bl false))) sSkip)
      (sSeq (sIf (tOr (tCmp dNe (eCall f_knots (eCons (eVar 5) eNil)) (eCall f__law_lots (eCons (eCall f_knots (eCons (eVar 1) eNil)) (eCons (eVar 4) eNil)))) (tCmp dNe (eCall f_knots (eCons (eCall f__law_turned_about (eCons (eVar 1) eNil)) eNil)) (eCall f_knots (eCons (eVar 1) eNil)))) (sRet (eC (.bl false))) sSkip)
      (sSeq (sPar 6 7 (eCons (eCall f__law_pick (eCons (eVar 0) (eCons (eVar 2) eNil))) (eCons (eCall f__law_pick (eCons (eVar 0) (eCons (eVar 2) eNil))) eNil)))
      (sSeq (sIf (tCmp dNe (eVar 6) (eVar 7)) (sSeq (sSet 8 (eU' Mi.gTup (eL (lSortSet (eBin oAdd (eIx (eVar 1) (eVar 6)) (eTup (eCons (eVar 7) eNil)))))))
      (sSeq (sSet 9 (eBin oAdd (eBin oAdd (eSl (eVar 1) pNo (pAt (eVar 6))) (eTup (eCons (eVar 8) eNil))) (eSl (eVar 1) (pAt (eBin oAdd (eVar 6) (eC (dN 1)))) pNo)))
      (sSeq (sIf (tNot (tE (eCall f__law_are_kept (eCons (eCall f_finds (eCons (eVar 1) eNil)) (eCons (eCall f_finds (eCons (eVar 9) eNil)) eNil))))) (sRet (eC (.bl false))) sSkip)
      (sIf (tOr (tCmp dNotIn (eBin oSub (eU' gLen (eCall f_pieces (eCons (eVar 1) eNil))) (eU' gLen (eCall f_pieces (eCons (eVar 9) eNil)))) (eL (lDisp (eCons (eC (dN 0)) (eCons (eC (dN 1)) eNil))))) (tCmp dNotIn (eVar 7) (eIx (eCall f_finds (eCons (eVar 9) eNil)) (eVar 6)))) (sRet (eC (.bl false))) sSkip)))) sSkip)
      (sSeq (sFor (iOf (eCall f_knots (eCons (eVar 1) eNil))) (gVar 10) (sIf (tCmp dNe (eU' gLen (eL (lComp (iOf (eCall f_pieces (eCons (eVar 1) eNil))) (gVar 11) (tE (eU' gAll (eL (lComp (iOf (eVar 10)) (gVar 12) tYes (eB (tCmp dIn (eVar 12) (eVar 11))) [12])))) (eVar 11) [11]))) (eC (dN 1))) (sRet (eC (.bl false))) sSkip))
      (sRet (eC (.bl true))))))))))))
def f__law_right : Fn := fun ds => scp (runB 13 b__law_right ds)
-- slots of law: 0 script, 1 bag, 2 first, 3 number, 4 web, 5 turn
@[reducible] def b_law : S :=
  (sSeq (sSet 1 (eCall f__law_bag (eCons (eVar 0) eNil)))
      (sSeq (sSet 2 (eCall f__law_pick (eCons (eVar 1) (eCons (eC (dN 8)) eNil))))
      (sSeq (sFor (iRange3 (eVar 2) (eC (dN 64)) (eC (dN 8))) (gVar 3) (sIf (tNot (tE (eCall f__law_is_told (eCons (eCall f__law_small (eCons (eVar 3) eNil)) eNil)))) (sRet (eC (.bl false))) sSkip))
      (sSeq (sFor (iOf (eL (lDisp (eCons (eTup (eCons (eTup eNil) eNil)) (eCons (eTup (eCons (eTup eNil) (eCons (eTup eNil) eNil))) (eCons (eTup (eCons (eTup (eCons (eC (dN 1)) eNil)) (eCons (eTup eNil) eNil))) (eCons (eTup (eCons (eTup eNil) (eCons (eTup (eCons (eC (dN 0)) eNil)) eNil))) (eCons (eTup (eCons (eTup (eCons (eC (dN 1)) eNil)) (eCons (eTup (eCons (eC (dN 0)) eNil)) eNil))) eNil)))))))) (gVar 4) (sIf (tNot (tE (eCall f__law_is_told (eCons (eVar 4) eNil)))) (sRet (eC (.bl false))) sSkip))
      (sSeq (sFor (iRange (eC (dN 4))) (gVar 5) (sSeq (sSet 4 (eCall f__law_web (eCons (eVar 1) (eCons (eC (dN 9)) eNil))))
      (sIf (tOr (tNot (tE (eCall f__law_is_told (eCons (eVar 4) eNil)))) (tNot (tE (eCall f__law_right (eCons (eVar 1) (eCons (eVar 4) eNil)))))) (sRet (eC (.bl false))) sSkip)))
      (sRet (eC (.bl true))))))))
def f_law : Fn := fun ds => scp (runB 6 b_law ds)
end K02
end
set_option Elab.async false
set_option linter.all false
set_option autoImplicit false
set_option maxRecDepth 100000
set_option maxHeartbeats 4000000
namespace K02
open PySem PySem.Spec PyProof.Rows L2 Mi
def top (i : Nat) : Stmt := PySem.Challenge.pw_stillfound_k02_whole_finds_pieces_knots.main.body.getD i (.Pass ⟨0, 0, 0, 0⟩)
abbrev s_is_integer : Stmt := top 4
abbrev s_is_between : Stmt := top 5
abbrev s_is_index : Stmt := top 6
abbrev s_are_ascending : Stmt := top 7
abbrev s_is_pocket : Stmt := top 10
abbrev s_is_web : Stmt := top 11
abbrev s_check_web : Stmt := top 12
abbrev s_found_from : Stmt := top 13
abbrev s_raw_finds : Stmt := top 14
abbrev s_finds : Stmt := top 15
abbrev s_both_ways : Stmt := top 16
abbrev s_tied : Stmt := top 17
abbrev s_raw_pieces : Stmt := top 18
abbrev s_pieces : Stmt := top 19
abbrev s_raw_knots : Stmt := top 20
abbrev s_knots : Stmt := top 21
abbrev s__law_bag : Stmt := top 23
abbrev s__law_pick : Stmt := top 24
abbrev s__law_some : Stmt := top 25
abbrev s__law_is : Stmt := top 26
abbrev s__law_web : Stmt := top 27
abbrev s__law_found : Stmt := top 28
abbrev s__law_pieces : Stmt := top 29
abbrev s__law_knots : Stmt := top 30
abbrev s__law_are_kept : Stmt := top 31
abbrev s__law_small : Stmt := top 32
abbrev s__law_called : Stmt := top 33
abbrev s__law_lots : Stmt := top 34
abbrev s__law_is_told : Stmt := top 35
abbrev s__law_turned_about : Stmt := top 36
abbrev s__law_right : Stmt := top 37
abbrev s_law : Stmt := top 38
structure Top (K : PySem.W.Frag) (mg : Str → Option Value) : Prop where
  a_is_integer : At K mg "is_integer" ["thing"] s_is_integer
  a_is_between : At K mg "is_between" ["thing", "least", "most"] s_is_between
  a_is_index : At K mg "is_index" ["thing", "many"] s_is_index
  a_are_ascending : At K mg "are_ascending" ["things"] s_are_ascending
  a_is_pocket : At K mg "is_pocket" ["thing", "person", "many"] s_is_pocket
  a_is_web : At K mg "is_web" ["thing"] s_is_web
  a_check_web : At K mg "check_web" ["thing"] s_check_web
  a_found_from : At K mg "found_from" ["web", "person"] s_found_from
  a_raw_finds : At K mg "raw_finds" ["web"] s_raw_finds
  a_finds : At K mg "finds" ["web"] s_finds
  a_both_ways : At K mg "both_ways" ["web"] s_both_ways
  a_tied : At K mg "tied" ["web", "one", "other"] s_tied
  a_raw_pieces : At K mg "raw_pieces" ["web"] s_raw_pieces
  a_pieces : At K mg "pieces" ["web"] s_pieces
  a_raw_knots : At K mg "raw_knots" ["web"] s_raw_knots
  a_knots : At K mg "knots" ["web"] s_knots
  a__law_bag : At K mg "_law_bag" ["script"] s__law_bag
  a__law_pick : At K mg "_law_pick" ["bag", "many"] s__law_pick
  a__law_some : At K mg "_law_some" ["bag", "things"] s__law_some
  a__law_is : At K mg "_law_is" ["thing", "due"] s__law_is
  a__law_web : At K mg "_law_web" ["bag", "most"] s__law_web
  a__law_found : At K mg "_law_found" ["web"] s__law_found
  a__law_pieces : At K mg "_law_pieces" ["web"] s__law_pieces
  a__law_knots : At K mg "_law_knots" ["web"] s__law_knots
  a__law_are_kept : At K mg "_law_are_kept" ["here", "there"] s__law_are_kept
  a__law_small : At K mg "_law_small" ["number"] s__law_small
  a__law_called : At K mg "_law_called" ["web", "names"] s__law_called
  a__law_lots : At K mg "_law_lots" ["lots", "names"] s__law_lots
  a__law_is_told : At K mg "_law_is_told" ["web"] s__law_is_told
  a__law_turned_about : At K mg "_law_turned_about" ["web"] s__law_turned_about
  a__law_right : At K mg "_law_right" ["bag", "web"] s__law_right
  a_law : At K mg "law" ["script"] s_law
  b_abs : mg "abs" = none
  b_all : mg "all" = none
  b_bool : mg "bool" = none
  b_enumerate : mg "enumerate" = none
  b_int : mg "int" = none
  b_isinstance : mg "isinstance" = none
  b_len : mg "len" = none
  b_list : mg "list" = none
  b_min : mg "min" = none
  b_range : mg "range" = none
  b_set : mg "set" = none
  b_sorted : mg "sorted" = none
  b_sum : mg "sum" = none
  b_tuple : mg "tuple" = none
  b_zip : mg "zip" = none
  c_MOST_PEOPLE : ∃ t, mg "MOST_PEOPLE" = some (.int 9 t)
  e_NoWeb : OwnE K mg "NoWeb"
section
variable {P : Program} {w : World} {K : PySem.W.Frag} {mg : Str → Option Value} {base : Heap}
theorem sc_is_integer : FnScope ["thing"] ["thing"] (defScope s_is_integer) := ⟨rfl, rfl, rfl, by decide +kernel, rfl, by decide +kernel, by decide +kernel⟩
theorem ok_is_integer (T : Top K mg) : OkF P w K mg base 1 "is_integer" ["thing"] f_is_integer :=
  okf T.a_is_integer sc_is_integer fun f cdv A outer s H E B W hr tk =>
    (css_one (cs_ret (ce_and (ce_isi (c := "int") (by decide) (by rfl) T.b_isinstance (by rfl) T.b_int (by decide +kernel) (cv 0)) (ce_one (ce_not (ce_isi (c := "bool") (by decide) (by rfl) T.b_isinstance (by rfl) T.b_bool (by decide +kernel) (cv 0)))))))
theorem sc_is_between : FnScope ["thing", "least", "most"] ["thing", "least", "most"] (defScope s_is_between) := ⟨rfl, rfl, rfl, by decide +kernel, rfl, by decide +kernel, by decide +kernel⟩
theorem ok_is_between (T : Top K mg) : OkF P w K mg base 2 "is_between" ["thing", "least", "most"] f_is_between :=
  okf T.a_is_between sc_is_between fun f cdv A outer s H E B W hr tk =>
    (css_one (cs_ret (ce_and (cc (ok_is_integer T) (hr.mono (by decide)) tk (ca_cons (cv 0) ca_nil)) (ce_one (ce_chain cmp_le cmp_le (cv 1) (cv 0) (cv 2))))))
theorem sc_is_index : FnScope ["thing", "many"] ["thing", "many"] (defScope s_is_index) := ⟨rfl, rfl, rfl, by decide +kernel, rfl, by decide +kernel, by decide +kernel⟩
theorem ok_is_index (T : Top K mg) : OkF P w K mg base 3 "is_index" ["thing", "many"] f_is_index :=
  okf T.a_is_index sc_is_index fun f cdv A outer s H E B W hr tk =>
    (css_one (cs_ret (cc (ok_is_between T) (hr.mono (by decide)) tk (ca_cons (cv 0) (ca_cons ce_int (ca_cons (ce_bin ops_sub (cv 1) ce_int) ca_nil))))))
theorem sc_are_ascending : FnScope ["things", "one", "other"] ["things"] (defScope s_are_ascending) := ⟨rfl, rfl, rfl, by decide +kernel, rfl, by decide +kernel, by decide +kernel⟩
theorem ok_are_ascending (T : Top K mg) : OkF P w K mg base 1 "are_ascending" ["things"] f_are_ascending :=
  okf T.a_are_ascending sc_are_ascending fun f cdv A outer s H E B W hr tk =>
    (css_one (cs_ret (ce_callB (cs_all rfl) (by rfl) T.b_all PyProof.Rows.boot_all (ce_l (cl_comp (own := [(("one" : Str), 1), (("other" : Str), 2)]) rfl sc_are_ascending.nd (ci_zip (by rfl) T.b_zip (cv 0) (ce_sl (cv 0) (cp_at ce_int) cp_no)) (blkOk_by (own := [(("one" : Str), 1), (("other" : Str), 2)]) (by dsimp only [cxOf, envOfC, Cx.blk, compEnvC, relabel, Env.blockKind, Env.kindOf]; first | decide +kernel | rfl)) (fun _ _ _ _ _ => (cg_set2 rfl sc_are_ascending.nd (i := 1) (j := 2) rfl (by first | exact Or.inl rfl | exact Or.inr rfl) rfl (by first | exact Or.inl rfl | exact Or.inr rfl))) (fun _ _ _ _ _ => cts_nil) (fun _ _ _ _ _ _ => (ce_cmp cmp_lt (cv 1) (cv 2) (nomark _))) (by decide))))))
theorem sc_is_pocket : FnScope ["thing", "person", "many", "other"] ["thing", "person", "many"] (defScope s_is_pocket) := ⟨rfl, rfl, rfl, by decide +kernel, rfl, by decide +kernel, by decide +kernel⟩
theorem ok_is_pocket (T : Top K mg) : OkF P w K mg base 4 "is_pocket" ["thing", "person", "many"] f_is_pocket :=
  okf T.a_is_pocket sc_is_pocket fun f cdv A outer s H E B W hr tk =>
    (css_cons (cs_if (ct_w (ct_or (ct_not (ct_val (ce_isi (c := "tuple") (by decide) (by rfl) T.b_isinstance (by rfl) T.b_tuple (by decide +kernel) (cv 0)))) (ct_or1 (ct_not (ct_val (ce_callB (cs_all rfl) (by rfl) T.b_all PyProof.Rows.boot_all (ce_l (cl_comp (own := [(("other" : Str), 3)]) rfl sc_is_pocket.nd (ci_of (cv 0)) (blkOk_by (own := [(("other" : Str), 3)]) (by dsimp only [cxOf, envOfC, Cx.blk, compEnvC, relabel, Env.blockKind, Env.kindOf]; first | decide +kernel | rfl)) (fun _ _ _ _ _ => (cg_var sc_is_pocket.nd (i := 3) rfl (by first | exact Or.inl rfl | exact Or.inr rfl))) (fun _ _ _ _ _ => cts_nil) (fun _ _ _ _ _ _ => (cc (ok_is_index T) (hr.mono (by decide)) takes0' (ca_cons (cv 3) (ca_cons (cv 2) ca_nil)))) (by decide))))))))) (css_one (cs_ret ce_bl)) css_nil)
      (css_one (cs_ret (ce_and (cc (ok_are_ascending T) (hr.mono (by decide)) tk (ca_cons (cv 0) ca_nil)) (ce_one (ce_cmp (cmp_notIn (hu90 hr)) (cv 1) (cv 0) (by rfl)))))))
theorem sc_is_web : FnScope ["thing", "person", "pocket"] ["thing"] (defScope s_is_web) := ⟨rfl, rfl, rfl, by decide +kernel, rfl, by decide +kernel, by decide +kernel⟩
theorem ok_is_web (T : Top K mg) : OkF P w K mg base 5 "is_web" ["thing"] f_is_web :=
  okf T.a_is_web sc_is_web fun f cdv A outer s H E B W hr tk =>
    (css_cons (cs_if (ct_w (ct_or (ct_not (ct_val (ce_isi (c := "tuple") (by decide) (by rfl) T.b_isinstance (by rfl) T.b_tuple (by decide +kernel) (cv 0)))) (ct_or1 (ct_not (ct_chain cmp_le cmp_le ce_int (ce_callB cs_len (by rfl) T.b_len PySem.boot_len (cv 0)) (ce_gint (by rfl) T.c_MOST_PEOPLE)))))) (css_one (cs_ret ce_bl)) css_nil)
      (css_one (cs_ret (ce_callB (cs_all rfl) (by rfl) T.b_all PyProof.Rows.boot_all (ce_l (cl_comp (own := [(("person" : Str), 1), (("pocket" : Str), 2)]) rfl sc_is_web.nd (ci_enum (by rfl) T.b_enumerate (cv 0)) (blkOk_by (own := [(("person" : Str), 1), (("pocket" : Str), 2)]) (by dsimp only [cxOf, envOfC, Cx.blk, compEnvC, relabel, Env.blockKind, Env.kindOf]; first | decide +kernel | rfl)) (fun _ _ _ _ _ => (cg_set2 rfl sc_is_web.nd (i := 1) (j := 2) rfl (by first | exact Or.inl rfl | exact Or.inr rfl) rfl (by first | exact Or.inl rfl | exact Or.inr rfl))) (fun _ _ _ _ _ => cts_nil) (fun _ _ _ _ _ _ => (cc (ok_is_pocket T) (hr.mono (by decide)) takes0' (ca_cons (cv 2) (ca_cons (cv 1) (ca_cons (ce_callB cs_len (by rfl) T.b_len PySem.boot_len (cv 0)) ca_nil))))) (by decide)))))))
theorem sc_check_web : FnScope ["thing"] ["thing"] (defScope s_check_web) := ⟨rfl, rfl, rfl, by decide +kernel, rfl, by decide +kernel, by decide +kernel⟩
theorem ok_check_web (T : Top K mg) : OkF P w K mg base 6 "check_web" ["thing"] f_check_web :=
  okf T.a_check_web sc_check_web fun f cdv A outer s H E B W hr tk =>
    (css_one (cs_if (ct_not (ct_val (cc (ok_is_web T) (hr.mono (by decide)) tk (ca_cons (cv 0) ca_nil)))) (css_one (cs_raise rfl tk T.e_NoWeb (by rfl))) css_nil))
theorem sc_found_from : FnScope ["web", "person", "found", "at", "other"] ["web", "person"] (defScope s_found_from) := ⟨rfl, rfl, rfl, by decide +kernel, rfl, by decide +kernel, by decide +kernel⟩
theorem ok_found_from (T : Top K mg) : OkF P w K mg base 1 "found_from" ["web", "person"] f_found_from :=
  okf T.a_found_from sc_found_from fun f cdv A outer s H E B W hr tk =>
    (css_cons (cs_set (i := 2) sc_found_from.nd rfl (by first | exact Or.inl rfl | exact Or.inr rfl) (ce_new (cl_disp (ca_cons (cv 1) ca_nil))))
      (css_cons (cs_set (i := 3) sc_found_from.nd rfl (by first | exact Or.inl rfl | exact Or.inr rfl) ce_int)
      (css_cons (cs_while fuel (passes_of rfl) (ct_cmp cmp_lt (cv 3) (ce_callB cs_len (by rfl) T.b_len PySem.boot_len (cv 2)) (nomark _)) (css_cons (cs_ext (cv 2) (ce_l (cl_comp (own := [(("other" : Str), 4)]) rfl sc_found_from.nd (ci_of (ce_ix (hu90 hr) (cv 0) (ce_ix (hu90 hr) (cv 2) (cv 3) (fun _ _ => rfl)) (fun _ _ => rfl))) (blkOk_by (own := [(("other" : Str), 4)]) (by dsimp only [cxOf, envOfC, Cx.blk, compEnvC, relabel, Env.blockKind, Env.kindOf]; first | decide +kernel | rfl)) (fun _ _ _ _ _ => (cg_var sc_found_from.nd (i := 4) rfl (by first | exact Or.inl rfl | exact Or.inr rfl))) (fun _ _ _ _ _ => (cts_one fun _ => (ct_cmp (cmp_notIn (hu90 hr)) (cv 4) (cv 2) (by rfl)))) (fun _ _ _ _ _ _ => (cv 4)) (by decide))))
      (css_one (cs_augAdd (i := 3) sc_found_from.nd rfl (by first | exact Or.inl rfl | exact Or.inr rfl) ce_int))))
      (css_one (cs_ret (cv 2))))))
theorem sc_raw_finds : FnScope ["web", "person"] ["web"] (defScope s_raw_finds) := ⟨rfl, rfl, rfl, by decide +kernel, rfl, by decide +kernel, by decide +kernel⟩
theorem ok_raw_finds (T : Top K mg) : OkF P w K mg base 2 "raw_finds" ["web"] f_raw_finds :=
  okf T.a_raw_finds sc_raw_finds fun f cdv A outer s H E B W hr tk =>
    (css_one (cs_ret (ce_callTy cs_tup (by rfl) T.b_tuple PyProof.Rows.boot_tuple (ce_l (cl_comp (own := [(("person" : Str), 1)]) rfl sc_raw_finds.nd (ci_range (by rfl) T.b_range (ce_callB cs_len (by rfl) T.b_len PySem.boot_len (cv 0))) (blkOk_by (own := [(("person" : Str), 1)]) (by dsimp only [cxOf, envOfC, Cx.blk, compEnvC, relabel, Env.blockKind, Env.kindOf]; first | decide +kernel | rfl)) (fun _ _ _ _ _ => (cg_var sc_raw_finds.nd (i := 1) rfl (by first | exact Or.inl rfl | exact Or.inr rfl))) (fun _ _ _ _ _ => cts_nil) (fun _ _ _ _ _ _ => (ce_callTy cs_tup (by rfl) T.b_tuple PyProof.Rows.boot_tuple (ce_l (cl_sort (hu90 hr) (by rfl) T.b_sorted (cc (ok_found_from T) (hr.mono (by decide)) takes0' (ca_cons (cv 0) (ca_cons (cv 1) ca_nil))))))) (by decide))))))
theorem sc_finds : FnScope ["web"] ["web"] (defScope s_finds) := ⟨rfl, rfl, rfl, by decide +kernel, rfl, by decide +kernel, by decide +kernel⟩
theorem ok_finds (T : Top K mg) : OkF P w K mg base 7 "finds" ["web"] f_finds :=
  okf T.a_finds sc_finds fun f cdv A outer s H E B W hr tk =>
    (css_cons (cs_expr (cc (ok_check_web T) (hr.mono (by decide)) tk (ca_cons (cv 0) ca_nil)))
      (css_one (cs_ret (cc (ok_raw_finds T) (hr.mono (by decide)) tk (ca_cons (cv 0) ca_nil)))))
theorem sc_tied : FnScope ["web", "one", "other"] ["web", "one", "other"] (defScope s_tied) := ⟨rfl, rfl, rfl, by decide +kernel, rfl, by decide +kernel, by decide +kernel⟩
theorem ok_tied (T : Top K mg) : OkF P w K mg base 1 "tied" ["web", "one", "other"] f_tied :=
  okf T.a_tied sc_tied fun f cdv A outer s H E B W hr tk =>
    (css_one (cs_ret (ce_or (ce_cmp (cmp_in (hu90 hr)) (cv 2) (ce_ix (hu90 hr) (cv 0) (cv 1) (fun _ _ => rfl)) (by rfl)) (ce_one (ce_cmp (cmp_in (hu90 hr)) (cv 1) (ce_ix (hu90 hr) (cv 0) (cv 2) (fun _ _ => rfl)) (by rfl))))))
theorem sc_both_ways : FnScope ["web", "people", "other", "person"] ["web"] (defScope s_both_ways) := ⟨rfl, rfl, rfl, by decide +kernel, rfl, by decide +kernel, by decide +kernel⟩
theorem ok_both_ways (T : Top K mg) : OkF P w K mg base 2 "both_ways" ["web"] f_both_ways :=
  okf T.a_both_ways sc_both_ways fun f cdv A outer s H E B W hr tk =>
    (css_cons (cs_set (i := 1) sc_both_ways.nd rfl (by first | exact Or.inl rfl | exact Or.inr rfl) (ce_l (cl_range rfl (by rfl) T.b_list (by rfl) T.b_range (ce_callB cs_len (by rfl) T.b_len PySem.boot_len (cv 0)))))
      (css_one (cs_ret (ce_callTy cs_tup (by rfl) T.b_tuple PyProof.Rows.boot_tuple (ce_l (cl_comp (own := [(("person" : Str), 3)]) rfl sc_both_ways.nd (ci_of (cv 1)) (blkOk_by (own := [(("person" : Str), 3)]) (by dsimp only [cxOf, envOfC, Cx.blk, compEnvC, relabel, Env.blockKind, Env.kindOf]; first | decide +kernel | rfl)) (fun _ _ _ _ _ => (cg_var sc_both_ways.nd (i := 3) rfl (by first | exact Or.inl rfl | exact Or.inr rfl))) (fun _ _ _ _ _ => cts_nil) (fun _ _ _ _ _ _ => (ce_callTy cs_tup (by rfl) T.b_tuple PyProof.Rows.boot_tuple (ce_l (cl_comp (own := [(("other" : Str), 2)]) rfl sc_both_ways.nd (ci_of (cv 1)) (blkOk_by (own := [(("other" : Str), 2)]) (by dsimp only [cxOf, envOfC, Cx.blk, compEnvC, relabel, Env.blockKind, Env.kindOf]; first | decide +kernel | rfl)) (fun _ _ _ _ _ => (cg_var sc_both_ways.nd (i := 2) rfl (by first | exact Or.inl rfl | exact Or.inr rfl))) (fun _ _ _ _ _ => (cts_one fun _ => (ct_val (cc (ok_tied T) (hr.mono (by decide)) takes0' (ca_cons (cv 0) (ca_cons (cv 3) (ca_cons (cv 2) ca_nil))))))) (fun _ _ _ _ _ _ => (cv 2)) (by decide))))) (by decide)))))))
theorem sc_raw_pieces : FnScope ["web", "lot"] ["web"] (defScope s_raw_pieces) := ⟨rfl, rfl, rfl, by decide +kernel, rfl, by decide +kernel, by decide +kernel⟩
theorem ok_raw_pieces (T : Top K mg) : OkF P w K mg base 3 "raw_pieces" ["web"] f_raw_pieces :=
  okf T.a_raw_pieces sc_raw_pieces fun f cdv A outer s H E B W hr tk =>
    (css_one (cs_ret (ce_callTy cs_tup (by rfl) T.b_tuple PyProof.Rows.boot_tuple (ce_l (cl_sortK rfl (hu90 hr) (by rfl) T.b_sorted (ce_dctC (own := [(("lot" : Str), 1)]) (hu90 hr) rfl sc_raw_pieces.nd (ci_of (cc (ok_raw_finds T) (hr.mono (by decide)) tk (ca_cons (cc (ok_both_ways T) (hr.mono (by decide)) tk (ca_cons (cv 0) ca_nil)) ca_nil))) (blkOk_by (own := [(("lot" : Str), 1)]) (by dsimp only [cxOf, envOfC, Cx.blk, compEnvC, relabel, Env.blockKind, Env.kindOf]; first | decide +kernel | rfl)) (fun _ _ _ _ _ => (cg_var sc_raw_pieces.nd (i := 1) rfl (by first | exact Or.inl rfl | exact Or.inr rfl))) (fun _ _ _ _ _ => cts_nil) (fun _ _ _ _ _ _ => (cv 1)) (fun _ _ _ _ _ _ => ce_bl) (by decide)))))))
theorem sc_pieces : FnScope ["web"] ["web"] (defScope s_pieces) := ⟨rfl, rfl, rfl, by decide +kernel, rfl, by decide +kernel, by decide +kernel⟩
theorem ok_pieces (T : Top K mg) : OkF P w K mg base 7 "pieces" ["web"] f_pieces :=
  okf T.a_pieces sc_pieces fun f cdv A outer s H E B W hr tk =>
    (css_cons (cs_expr (cc (ok_check_web T) (hr.mono (by decide)) tk (ca_cons (cv 0) ca_nil)))
      (css_one (cs_ret (cc (ok_raw_pieces T) (hr.mono (by decide)) tk (ca_cons (cv 0) ca_nil)))))
theorem sc_raw_knots : FnScope ["web", "found", "lots", "person", "other"] ["web"] (defScope s_raw_knots) := ⟨rfl, rfl, rfl, by decide +kernel, rfl, by decide +kernel, by decide +kernel⟩
theorem ok_raw_knots (T : Top K mg) : OkF P w K mg base 3 "raw_knots" ["web"] f_raw_knots :=
  okf T.a_raw_knots sc_raw_knots fun f cdv A outer s H E B W hr tk =>
    (css_cons (cs_set (i := 1) sc_raw_knots.nd rfl (by first | exact Or.inl rfl | exact Or.inr rfl) (cc (ok_raw_finds T) (hr.mono (by decide)) tk (ca_cons (cv 0) ca_nil)))
      (css_cons (cs_set (i := 2) sc_raw_knots.nd rfl (by first | exact Or.inl rfl | exact Or.inr rfl) ce_dct0)
      (css_cons (cs_for (passes_of rfl) rfl (ci_range (by rfl) T.b_range (ce_callB cs_len (by rfl) T.b_len PySem.boot_len (cv 0))) (cg_var sc_raw_knots.nd (i := 3) rfl (by first | exact Or.inl rfl | exact Or.inr rfl)) (css_one (cs_putD (hu90 hr) (cv 2) (ce_callTy cs_tup (by rfl) T.b_tuple PyProof.Rows.boot_tuple (ce_l (cl_comp (own := [(("other" : Str), 4)]) rfl sc_raw_knots.nd (ci_of (ce_ix (hu90 hr) (cv 1) (cv 3) (fun _ _ => rfl))) (blkOk_by (own := [(("other" : Str), 4)]) (by dsimp only [cxOf, envOfC, Cx.blk, compEnvC, relabel, Env.blockKind, Env.kindOf]; first | decide +kernel | rfl)) (fun _ _ _ _ _ => (cg_var sc_raw_knots.nd (i := 4) rfl (by first | exact Or.inl rfl | exact Or.inr rfl))) (fun _ _ _ _ _ => (cts_one fun _ => (ct_cmp (cmp_in (hu90 hr)) (cv 3) (ce_ix (hu90 hr) (cv 1) (cv 4) (fun _ _ => rfl)) (by rfl)))) (fun _ _ _ _ _ _ => (cv 4)) (by decide)))) ce_bl)))
      (css_one (cs_ret (ce_callTy cs_tup (by rfl) T.b_tuple PyProof.Rows.boot_tuple (ce_l (cl_sortK rfl (hu90 hr) (by rfl) T.b_sorted (cv 2)))))))))
theorem sc_knots : FnScope ["web"] ["web"] (defScope s_knots) := ⟨rfl, rfl, rfl, by decide +kernel, rfl, by decide +kernel, by decide +kernel⟩
theorem ok_knots (T : Top K mg) : OkF P w K mg base 7 "knots" ["web"] f_knots :=
  okf T.a_knots sc_knots fun f cdv A outer s H E B W hr tk =>
    (css_cons (cs_expr (cc (ok_check_web T) (hr.mono (by decide)) tk (ca_cons (cv 0) ca_nil)))
      (css_one (cs_ret (cc (ok_raw_knots T) (hr.mono (by decide)) tk (ca_cons (cv 0) ca_nil)))))
theorem sc__law_bag : FnScope ["script", "seed", "cell", "great", "always"] ["script"] (defScope s__law_bag) := ⟨rfl, rfl, rfl, by decide +kernel, rfl, by decide +kernel, by decide +kernel⟩
theorem ok__law_bag (T : Top K mg) : OkF P w K mg base 1 "_law_bag" ["script"] f__law_bag :=
  okr T.a__law_bag sc__law_bag fun f cdv A outer s H E B W hr tk =>
    (css_cons (cs_set (i := 1) sc__law_bag.nd rfl (by first | exact Or.inl rfl | exact Or.inr rfl) (ce_bin ops_add ce_int (ce_callB cs_len (by rfl) T.b_len PySem.boot_len (cv 0))))
      (css_cons (cs_for (passes_of rfl) rfl (ci_of (ce_sl (cv 0) cp_no (cp_at ce_int))) (cg_var sc__law_bag.nd (i := 2) rfl (by first | exact Or.inl rfl | exact Or.inr rfl)) (css_one (cs_set (i := 1) sc__law_bag.nd rfl (by first | exact Or.inl rfl | exact Or.inr rfl) (ce_bin ops_mod (ce_callTy cs_int (by rfl) T.b_int PyProof.Rows.boot_int (ce_bin ops_add (ce_bin ops_add (ce_bin ops_mul (cv 1) ce_int) (ce_bin ops_mod (ce_callTy cs_int (by rfl) T.b_int PyProof.Rows.boot_int (cv 2)) ce_int)) ce_int)) ce_int))))
      (css_cons (cs_setLc (own := [(("cell" : Str), 2)]) (i := 3) rfl sc__law_bag.nd rfl rfl (sw_true rfl rfl rfl (by decide +kernel)) (ci_of (ce_sl (cv 0) cp_no (cp_at ce_int))) (blkOk_by (own := [(("cell" : Str), 2)]) (by dsimp only [cxOf, envOfC, Cx.blk, compEnvC, relabel, Env.blockKind, Env.kindOf]; first | decide +kernel | rfl)) (fun _ _ _ _ _ => (cg_var sc__law_bag.nd (i := 2) rfl (by first | exact Or.inl rfl | exact Or.inr rfl))) (fun _ _ _ _ _ => (cts_one fun _ => (ct_cmp cmp_ge (ce_callB cs_abs (by rfl) T.b_abs PyProof.Rows.boot_abs (ce_callTy cs_int (by rfl) T.b_int PyProof.Rows.boot_int (cv 2))) (ce_bin ops_pow ce_int ce_int) (nomark _)))) (fun _ _ _ _ _ _ => (ce_callB cs_abs (by rfl) T.b_abs PyProof.Rows.boot_abs (ce_callTy cs_int (by rfl) T.b_int PyProof.Rows.boot_int (cv 2)))) (by decide) (hs := by intro _; rfl) true)
      (css_cons (cs_set (i := 4) sc__law_bag.nd rfl (by first | exact Or.inl rfl | exact Or.inr rfl) ce_non)
      (css_cons (cs_if (ct_w (ct_and (ct_cmp cmp_lt (ce_callB cs_len (by rfl) T.b_len PySem.boot_len (cv 0)) ce_int (nomark _)) (ct_and1 (ct_cmp (cmp_eq (hu90 hr)) (ce_callB cs_len (by rfl) T.b_len PySem.boot_len (cv 3)) ce_int (nomark _))))) (css_one (cs_set (i := 4) sc__law_bag.nd rfl (by first | exact Or.inl rfl | exact Or.inr rfl) (ce_callB cs_abs (by rfl) T.b_abs PyProof.Rows.boot_abs (ce_callB (cs_sum rfl) (by rfl) T.b_sum PyProof.Rows.boot_sum (ce_l (cl_comp (own := [(("cell" : Str), 2)]) rfl sc__law_bag.nd (ci_of (cv 0)) (blkOk_by (own := [(("cell" : Str), 2)]) (by dsimp only [cxOf, envOfC, Cx.blk, compEnvC, relabel, Env.blockKind, Env.kindOf]; first | decide +kernel | rfl)) (fun _ _ _ _ _ => (cg_var sc__law_bag.nd (i := 2) rfl (by first | exact Or.inl rfl | exact Or.inr rfl))) (fun _ _ _ _ _ => cts_nil) (fun _ _ _ _ _ _ => (ce_callTy cs_int (by rfl) T.b_int PyProof.Rows.boot_int (cv 2))) (by decide))))))) css_nil)
      (css_one (cs_ret (ce_new (cl_disp (ca_cons (cv 1) (ca_cons ce_int (ca_cons (cv 3) (ca_cons (cv 4) ca_nil)))))))))))))
theorem sc__law_pick : FnScope ["bag", "many", "great", "digit", "number"] ["bag", "many"] (defScope s__law_pick) := ⟨rfl, rfl, rfl, by decide +kernel, rfl, by decide +kernel, by decide +kernel⟩
theorem ok__law_pick (T : Top K mg) : OkF P w K mg base 1 "_law_pick" ["bag", "many"] f__law_pick :=
  okf T.a__law_pick sc__law_pick fun f cdv A outer s H E B W hr tk =>
    (css_cons (cs_if (ct_cmp cmp_isNotN (ce_ix (hu90 hr) (cv 0) ce_int (fun _ _ => rfl)) ce_non (nomark _)) (css_one (cs_ret (ce_bin ops_mod (ce_callTy cs_int (by rfl) T.b_int PyProof.Rows.boot_int (ce_ix (hu90 hr) (cv 0) ce_int (fun _ _ => rfl))) (cv 1)))) css_nil)
      (css_cons (cs_put (cv 0) ce_int (ce_bin ops_add (ce_ix (hu90 hr) (cv 0) ce_int (fun _ _ => rfl)) ce_int))
      (css_cons (cs_set (i := 2) sc__law_pick.nd rfl (by first | exact Or.inl rfl | exact Or.inr rfl) (ce_ix (hu90 hr) (cv 0) ce_int (fun _ _ => rfl)))
      (css_cons (cs_if (ct_cmp cmp_gt (ce_callB cs_len (by rfl) T.b_len PySem.boot_len (cv 2)) ce_int (nomark _)) (css_cons (cs_set (i := 3) sc__law_pick.nd rfl (by first | exact Or.inl rfl | exact Or.inr rfl) (ce_bin ops_mod (ce_callTy cs_int (by rfl) T.b_int PyProof.Rows.boot_int (ce_ix (hu90 hr) (cv 2) ce_int (fun _ _ => rfl))) (cv 1)))
      (css_cons (cs_put (cv 2) ce_int (ce_bin ops_div (ce_callTy cs_int (by rfl) T.b_int PyProof.Rows.boot_int (ce_ix (hu90 hr) (cv 2) ce_int (fun _ _ => rfl))) (cv 1)))
      (css_cons (cs_if (ct_cmp (cmp_eq (hu90 hr)) (ce_ix (hu90 hr) (cv 2) ce_int (fun _ _ => rfl)) ce_int (nomark _)) (css_one (cs_expr (ce_popAt (cv 2) ce_int))) css_nil)
      (css_one (cs_ret (cv 3)))))) css_nil)
      (css_cons (cs_set (i := 4) sc__law_pick.nd rfl (by first | exact Or.inl rfl | exact Or.inr rfl) (ce_bin ops_mod (ce_callTy cs_int (by rfl) T.b_int PyProof.Rows.boot_int (ce_bin ops_mul (ce_bin ops_add (ce_ix (hu90 hr) (cv 0) ce_int (fun _ _ => rfl)) (ce_bin ops_mul ce_int (ce_ix (hu90 hr) (cv 0) ce_int (fun _ _ => rfl)))) ce_int)) ce_int))
      (css_cons (cs_set (i := 4) sc__law_pick.nd rfl (by first | exact Or.inl rfl | exact Or.inr rfl) (ce_bin ops_mod (ce_callTy cs_int (by rfl) T.b_int PyProof.Rows.boot_int (ce_bin ops_mul (cv 4) (ce_bin ops_add (ce_bin ops_div (cv 4) ce_int) ce_int))) ce_int))
      (css_cons (cs_set (i := 4) sc__law_pick.nd rfl (by first | exact Or.inl rfl | exact Or.inr rfl) (ce_bin ops_mod (ce_callTy cs_int (by rfl) T.b_int PyProof.Rows.boot_int (ce_bin ops_mul (cv 4) (ce_bin ops_add (ce_bin ops_div (cv 4) ce_int) ce_int))) ce_int))
      (css_one (cs_ret (ce_bin ops_mod (ce_callTy cs_int (by rfl) T.b_int PyProof.Rows.boot_int (ce_bin ops_div (cv 4) ce_int)) (cv 1)))))))))))
theorem sc__law_some : FnScope ["bag", "things"] ["bag", "things"] (defScope s__law_some) := ⟨rfl, rfl, rfl, by decide +kernel, rfl, by decide +kernel, by decide +kernel⟩
theorem ok__law_some (T : Top K mg) : OkF P w K mg base 2 "_law_some" ["bag", "things"] f__law_some :=
  okf T.a__law_some sc__law_some fun f cdv A outer s H E B W hr tk =>
    (css_one (cs_ret (ce_ix (hu90 hr) (cv 1) (cc (ok__law_pick T) (hr.mono (by decide)) tk (ca_cons (cv 0) (ca_cons (ce_callB cs_len (by rfl) T.b_len PySem.boot_len (cv 1)) ca_nil))) (fun _ _ => rfl))))
theorem sc__law_is : FnScope ["thing", "due", "one", "other"] ["thing", "due"] (defScope s__law_is) := ⟨rfl, rfl, rfl, by decide +kernel, rfl, by decide +kernel, by decide +kernel⟩
theorem ok__law_is (T : Top K mg) : ∀ n : Nat, OkF P w K mg base (0 + n) "_law_is" ["thing", "due"] (f__law_is n)
  | 0 => ok_stuck T.a__law_is
  | n + 1 => by
    have IH := ok__law_is T n
    exact okf T.a__law_is sc__law_is fun f cdv A outer s H E B W hr tk =>
      (css_cons (cs_if (ct_val (ce_isi2 (c := "tuple") (c' := "list") (by decide) (by decide) (by rfl) T.b_isinstance (by rfl) T.b_tuple (by decide +kernel) (by rfl) T.b_list (by decide +kernel) (cv 1))) (css_cons (cs_if (ct_w (ct_or (ct_cmp (cmp_ne (hu90 hr)) (ce_isi (c := "tuple") (by decide) (by rfl) T.b_isinstance (by rfl) T.b_tuple (by decide +kernel) (cv 0)) (ce_isi (c := "tuple") (by decide) (by rfl) T.b_isinstance (by rfl) T.b_tuple (by decide +kernel) (cv 1)) (nomark _)) (ct_or1 (ct_cmp (cmp_ne (hu90 hr)) (ce_isi (c := "list") (by decide) (by rfl) T.b_isinstance (by rfl) T.b_list (by decide +kernel) (cv 0)) (ce_isi (c := "list") (by decide) (by rfl) T.b_isinstance (by rfl) T.b_list (by decide +kernel) (cv 1)) (nomark _))))) (css_one (cs_ret ce_bl)) css_nil)
      (css_one (cs_ret (ce_and (ce_cmp (cmp_eq (hu90 hr)) (ce_callB cs_len (by rfl) T.b_len PySem.boot_len (cv 0)) (ce_callB cs_len (by rfl) T.b_len PySem.boot_len (cv 1)) (nomark _)) (ce_one (ce_callB (cs_all rfl) (by rfl) T.b_all PyProof.Rows.boot_all (ce_l (cl_comp (own := [(("one" : Str), 2), (("other" : Str), 3)]) rfl sc__law_is.nd (ci_zip (by rfl) T.b_zip (cv 0) (cv 1)) (blkOk_by (own := [(("one" : Str), 2), (("other" : Str), 3)]) (by dsimp only [cxOf, envOfC, Cx.blk, compEnvC, relabel, Env.blockKind, Env.kindOf]; first | decide +kernel | rfl)) (fun _ _ _ _ _ => (cg_set2 rfl sc__law_is.nd (i := 2) (j := 3) rfl (by first | exact Or.inl rfl | exact Or.inr rfl) rfl (by first | exact Or.inl rfl | exact Or.inr rfl))) (fun _ _ _ _ _ => cts_nil) (fun _ _ _ _ _ _ => (cc IH (hr.mono (by first | omega | (simp; done) | (simp; omega))) takes0' (ca_cons (cv 2) (ca_cons (cv 3) ca_nil)))) (by decide))))))))) css_nil)
      (css_one (cs_ret (ce_and (ce_cmp (cmp_eq (hu90 hr)) (ce_isi (c := "bool") (by decide) (by rfl) T.b_isinstance (by rfl) T.b_bool (by decide +kernel) (cv 0)) (ce_isi (c := "bool") (by decide) (by rfl) T.b_isinstance (by rfl) T.b_bool (by decide +kernel) (cv 1)) (nomark _)) (ce_one (ce_cmp (cmp_eq (hu90 hr)) (cv 0) (cv 1) (nomark _)))))))
theorem sc__law_web : FnScope ["bag", "most", "many", "share", "cards", "person", "way", "other", "pocket"] ["bag", "most"] (defScope s__law_web) := ⟨rfl, rfl, rfl, by decide +kernel, rfl, by decide +kernel, by decide +kernel⟩
theorem ok__law_web (T : Top K mg) : OkF P w K mg base 3 "_law_web" ["bag", "most"] f__law_web :=
  okf T.a__law_web sc__law_web fun f cdv A outer s H E B W hr tk =>
    (css_cons (cs_set (i := 2) sc__law_web.nd rfl (by first | exact Or.inl rfl | exact Or.inr rfl) (ce_bin ops_add ce_int (cc (ok__law_pick T) (hr.mono (by decide)) tk (ca_cons (cv 0) (ca_cons (cv 1) ca_nil)))))
      (css_cons (cs_set (i := 3) sc__law_web.nd rfl (by first | exact Or.inl rfl | exact Or.inr rfl) (cc (ok__law_some T) (hr.mono (by decide)) tk (ca_cons (cv 0) (ca_cons (ce_l (cl_disp (ca_cons ce_int (ca_cons ce_int (ca_cons ce_int (ca_cons ce_int (ca_cons ce_int (ca_cons ce_int ca_nil)))))))) ca_nil))))
      (css_cons (cs_set (i := 4) sc__law_web.nd rfl (by first | exact Or.inl rfl | exact Or.inr rfl) (ce_new (cl_disp ca_nil)))
      (css_cons (cs_for (passes_of rfl) rfl (ci_range (by rfl) T.b_range (cv 2)) (cg_var sc__law_web.nd (i := 5) rfl (by first | exact Or.inl rfl | exact Or.inr rfl)) (css_one (cs_app (cv 4) (ce_l (cl_comp (own := [(("other" : Str), 7)]) rfl sc__law_web.nd (ci_range (by rfl) T.b_range (cv 2)) (blkOk_by (own := [(("other" : Str), 7)]) (by dsimp only [cxOf, envOfC, Cx.blk, compEnvC, relabel, Env.blockKind, Env.kindOf]; first | decide +kernel | rfl)) (fun _ _ _ _ _ => (cg_var sc__law_web.nd (i := 7) rfl (by first | exact Or.inl rfl | exact Or.inr rfl))) (fun _ _ _ _ _ => (cts_one fun _ => (ct_w (ct_and (ct_cmp (cmp_ne (hu90 hr)) (cv 7) (cv 5) (nomark _)) (ct_and1 (ct_cmp (cmp_eq (hu90 hr)) (cc (ok__law_pick T) (hr.mono (by decide)) takes0' (ca_cons (cv 0) (ca_cons (cv 3) ca_nil))) ce_int (nomark _))))))) (fun _ _ _ _ _ _ => (cv 7)) (by decide))))))
      (css_cons (cs_set (i := 6) sc__law_web.nd rfl (by first | exact Or.inl rfl | exact Or.inr rfl) (cc (ok__law_pick T) (hr.mono (by decide)) tk (ca_cons (cv 0) (ca_cons ce_int ca_nil))))
      (css_cons (cs_if (ct_cmp (cmp_eq (hu90 hr)) (cv 6) ce_int (nomark _)) (css_one (cs_setLc (own := [(("person" : Str), 5)]) (i := 4) rfl sc__law_web.nd rfl rfl (sw_true rfl rfl rfl (by decide +kernel)) (ci_range (by rfl) T.b_range (cv 2)) (blkOk_by (own := [(("person" : Str), 5)]) (by dsimp only [cxOf, envOfC, Cx.blk, compEnvC, relabel, Env.blockKind, Env.kindOf]; first | decide +kernel | rfl)) (fun _ _ _ _ _ => (cg_var sc__law_web.nd (i := 5) rfl (by first | exact Or.inl rfl | exact Or.inr rfl))) (fun _ _ _ _ _ => cts_nil) (fun _ _ _ _ _ _ => (ce_l (cl_comp (own := [(("other" : Str), 7)]) rfl sc__law_web.nd (ci_of (ce_l (cl_disp (ca_cons (ce_bin ops_sub (cv 5) ce_int) (ca_cons (ce_bin ops_add (cv 5) ce_int) ca_nil))))) (blkOk_by (own := [(("other" : Str), 7)]) (by dsimp only [cxOf, envOfC, Cx.blk, compEnvC, relabel, Env.blockKind, Env.kindOf]; first | decide +kernel | rfl)) (fun _ _ _ _ _ => (cg_var sc__law_web.nd (i := 7) rfl (by first | exact Or.inl rfl | exact Or.inr rfl))) (fun _ _ _ _ _ => (cts_one fun _ => (ct_chain cmp_le cmp_lt ce_int (cv 7) (cv 2)))) (fun _ _ _ _ _ _ => (cv 7)) (by decide)))) (by decide) (hs := by intro _; rfl) true)) css_nil)
      (css_cons (cs_if (ct_cmp (cmp_eq (hu90 hr)) (cv 6) ce_int (nomark _)) (css_one (cs_setLc (own := [(("person" : Str), 5)]) (i := 4) rfl sc__law_web.nd rfl rfl (sw_true rfl rfl rfl (by decide +kernel)) (ci_range (by rfl) T.b_range (cv 2)) (blkOk_by (own := [(("person" : Str), 5)]) (by dsimp only [cxOf, envOfC, Cx.blk, compEnvC, relabel, Env.blockKind, Env.kindOf]; first | decide +kernel | rfl)) (fun _ _ _ _ _ => (cg_var sc__law_web.nd (i := 5) rfl (by first | exact Or.inl rfl | exact Or.inr rfl))) (fun _ _ _ _ _ => cts_nil) (fun _ _ _ _ _ _ => (ce_if (ct_cmp cmp_gt (cv 2) ce_int (nomark _)) (ce_l (cl_disp (ca_cons (ce_bin ops_mod (ce_callTy cs_int (by rfl) T.b_int PyProof.Rows.boot_int (ce_bin ops_add (cv 5) ce_int)) (cv 2)) ca_nil))) (ce_l (cl_disp ca_nil)))) (by decide) (hs := by intro _; rfl) true)) css_nil)
      (css_cons (cs_if (ct_cmp (cmp_eq (hu90 hr)) (cv 6) ce_int (nomark _)) (css_one (cs_setLcE (own := [(("person" : Str), 5), (("pocket" : Str), 8)]) (i := 4) (by rfl) T.b_enumerate rfl sc__law_web.nd rfl rfl (sw_true rfl rfl rfl (by decide +kernel)) (cv 4) (blkOk_by (own := [(("person" : Str), 5), (("pocket" : Str), 8)]) (by dsimp only [cxOf, envOfC, Cx.blk, compEnvC, relabel, Env.blockKind, Env.kindOf]; first | decide +kernel | rfl)) (fun _ _ _ _ _ => (cg_set2 rfl sc__law_web.nd (i := 5) (j := 8) rfl (by first | exact Or.inl rfl | exact Or.inr rfl) rfl (by first | exact Or.inl rfl | exact Or.inr rfl))) (fun _ _ _ _ _ => cts_nil) (fun _ _ _ _ _ _ => (ce_if (ct_cmp (cmp_eq (hu90 hr)) (ce_bin ops_mod (ce_callTy cs_int (by rfl) T.b_int PyProof.Rows.boot_int (cv 5)) ce_int) ce_int (nomark _)) (cv 8) (ce_l (cl_disp ca_nil)))) (by decide))) css_nil)
      (css_one (cs_ret (ce_callTy cs_tup (by rfl) T.b_tuple PyProof.Rows.boot_tuple (ce_l (cl_comp (own := [(("pocket" : Str), 8)]) rfl sc__law_web.nd (ci_of (cv 4)) (blkOk_by (own := [(("pocket" : Str), 8)]) (by dsimp only [cxOf, envOfC, Cx.blk, compEnvC, relabel, Env.blockKind, Env.kindOf]; first | decide +kernel | rfl)) (fun _ _ _ _ _ => (cg_var sc__law_web.nd (i := 8) rfl (by first | exact Or.inl rfl | exact Or.inr rfl))) (fun _ _ _ _ _ => cts_nil) (fun _ _ _ _ _ _ => (ce_callTy cs_tup (by rfl) T.b_tuple PyProof.Rows.boot_tuple (cv 8))) (by decide))))))))))))))
theorem sc__law_found : FnScope ["web", "rows", "turn", "person", "other", "third", "row"] ["web"] (defScope s__law_found) := ⟨rfl, rfl, rfl, by decide +kernel, rfl, by decide +kernel, by decide +kernel⟩
theorem ok__law_found (T : Top K mg) : OkF P w K mg base 1 "_law_found" ["web"] f__law_found :=
  okf T.a__law_found sc__law_found fun f cdv A outer s H E B W hr tk =>
    (css_cons (cs_setLc (own := [(("person" : Str), 3)]) (i := 1) rfl sc__law_found.nd rfl rfl (sw_true rfl rfl rfl (by decide +kernel)) (ci_range (by rfl) T.b_range (ce_callB cs_len (by rfl) T.b_len PySem.boot_len (cv 0))) (blkOk_by (own := [(("person" : Str), 3)]) (by dsimp only [cxOf, envOfC, Cx.blk, compEnvC, relabel, Env.blockKind, Env.kindOf]; first | decide +kernel | rfl)) (fun _ _ _ _ _ => (cg_var sc__law_found.nd (i := 3) rfl (by first | exact Or.inl rfl | exact Or.inr rfl))) (fun _ _ _ _ _ => cts_nil) (fun _ _ _ _ _ _ => (ce_dctA (fun _ => (cv 3)) (fun _ => ce_bl))) (by decide) (hs := by intro _; rfl) false)
      (css_cons (cs_for (passes_of rfl) rfl (ci_range (by rfl) T.b_range (ce_callB cs_len (by rfl) T.b_len PySem.boot_len (cv 0))) (cg_var sc__law_found.nd (i := 2) rfl (by first | exact Or.inl rfl | exact Or.inr rfl)) (css_one (cs_for (passes_of rfl) rfl (ci_range (by rfl) T.b_range (ce_callB cs_len (by rfl) T.b_len PySem.boot_len (cv 0))) (cg_var sc__law_found.nd (i := 3) rfl (by first | exact Or.inl rfl | exact Or.inr rfl)) (css_one (cs_for (passes_of rfl) rfl (ci_of (ce_l (cl_keys rfl (by rfl) T.b_list (ce_ix (hu90 hr) (cv 1) (cv 3) (fun _ _ => rfl))))) (cg_var sc__law_found.nd (i := 4) rfl (by first | exact Or.inl rfl | exact Or.inr rfl)) (css_one (cs_for (passes_of rfl) rfl (ci_of (ce_ix (hu90 hr) (cv 0) (cv 4) (fun _ _ => rfl))) (cg_var sc__law_found.nd (i := 5) rfl (by first | exact Or.inl rfl | exact Or.inr rfl)) (css_one (cs_putD (hu90 hr) (ce_ix (hu90 hr) (cv 1) (cv 3) (fun _ _ => rfl)) (cv 5) ce_bl)))))))))
      (css_one (cs_ret (ce_callTy cs_tup (by rfl) T.b_tuple PyProof.Rows.boot_tuple (ce_l (cl_comp (own := [(("row" : Str), 6)]) rfl sc__law_found.nd (ci_of (cv 1)) (blkOk_by (own := [(("row" : Str), 6)]) (by dsimp only [cxOf, envOfC, Cx.blk, compEnvC, relabel, Env.blockKind, Env.kindOf]; first | decide +kernel | rfl)) (fun _ _ _ _ _ => (cg_var sc__law_found.nd (i := 6) rfl (by first | exact Or.inl rfl | exact Or.inr rfl))) (fun _ _ _ _ _ => cts_nil) (fun _ _ _ _ _ _ => (ce_callTy cs_tup (by rfl) T.b_tuple PyProof.Rows.boot_tuple (ce_l (cl_sortK rfl (hu90 hr) (by rfl) T.b_sorted (cv 6))))) (by decide))))))))
theorem sc__law_pieces : FnScope ["web", "names", "turn", "person", "pocket", "other", "least", "name", "one"] ["web"] (defScope s__law_pieces) := ⟨rfl, rfl, rfl, by decide +kernel, rfl, by decide +kernel, by decide +kernel⟩
theorem ok__law_pieces (T : Top K mg) : OkF P w K mg base 1 "_law_pieces" ["web"] f__law_pieces :=
  okf T.a__law_pieces sc__law_pieces fun f cdv A outer s H E B W hr tk =>
    (css_cons (cs_set (i := 1) sc__law_pieces.nd rfl (by first | exact Or.inl rfl | exact Or.inr rfl) (ce_l (cl_range rfl (by rfl) T.b_list (by rfl) T.b_range (ce_callB cs_len (by rfl) T.b_len PySem.boot_len (cv 0)))))
      (css_cons (cs_for (passes_of rfl) rfl (ci_range (by rfl) T.b_range (ce_callB cs_len (by rfl) T.b_len PySem.boot_len (cv 0))) (cg_var sc__law_pieces.nd (i := 2) rfl (by first | exact Or.inl rfl | exact Or.inr rfl)) (css_one (cs_for (passes_of rfl) rfl (ci_enum (by rfl) T.b_enumerate (cv 0)) (cg_set2 rfl sc__law_pieces.nd (i := 3) (j := 4) rfl (by first | exact Or.inl rfl | exact Or.inr rfl) rfl (by first | exact Or.inl rfl | exact Or.inr rfl)) (css_one (cs_for (passes_of rfl) rfl (ci_of (cv 4)) (cg_var sc__law_pieces.nd (i := 5) rfl (by first | exact Or.inl rfl | exact Or.inr rfl)) (css_cons (cs_set (i := 6) sc__law_pieces.nd rfl (by first | exact Or.inl rfl | exact Or.inr rfl) (ce_min2 rfl (by rfl) T.b_min (ce_ix (hu90 hr) (cv 1) (cv 3) (fun _ _ => rfl)) (ce_ix (hu90 hr) (cv 1) (cv 5) (fun _ _ => rfl))))
      (css_one (cs_set (i := 1) sc__law_pieces.nd rfl (by first | exact Or.inl rfl | exact Or.inr rfl) (ce_l (cl_comp (own := [(("name" : Str), 7)]) rfl sc__law_pieces.nd (ci_of (cv 1)) (blkOk_by (own := [(("name" : Str), 7)]) (by dsimp only [cxOf, envOfC, Cx.blk, compEnvC, relabel, Env.blockKind, Env.kindOf]; first | decide +kernel | rfl)) (fun _ _ _ _ _ => (cg_var sc__law_pieces.nd (i := 7) rfl (by first | exact Or.inl rfl | exact Or.inr rfl))) (fun _ _ _ _ _ => cts_nil) (fun _ _ _ _ _ _ => (ce_if (ct_cmp (cmp_in (hu90 hr)) (cv 7) (ce_l (cl_disp (ca_cons (ce_ix (hu90 hr) (cv 1) (cv 3) (fun _ _ => rfl)) (ca_cons (ce_ix (hu90 hr) (cv 1) (cv 5) (fun _ _ => rfl)) ca_nil)))) (by rfl)) (cv 6) (cv 7))) (by decide)))))))))))
      (css_one (cs_ret (ce_callTy cs_tup (by rfl) T.b_tuple PyProof.Rows.boot_tuple (ce_l (cl_sort (hu90 hr) (by rfl) T.b_sorted (ce_l (cl_comp (own := [(("name" : Str), 7)]) rfl sc__law_pieces.nd (ci_of (ce_l (cl_sortSet rfl (by rfl) T.b_sorted (by rfl) T.b_set (cv 1)))) (blkOk_by (own := [(("name" : Str), 7)]) (by dsimp only [cxOf, envOfC, Cx.blk, compEnvC, relabel, Env.blockKind, Env.kindOf]; first | decide +kernel | rfl)) (fun _ _ _ _ _ => (cg_var sc__law_pieces.nd (i := 7) rfl (by first | exact Or.inl rfl | exact Or.inr rfl))) (fun _ _ _ _ _ => cts_nil) (fun _ _ _ _ _ _ => (ce_callTy cs_tup (by rfl) T.b_tuple PyProof.Rows.boot_tuple (ce_l (cl_comp (own := [(("one" : Str), 8)]) rfl sc__law_pieces.nd (ci_range (by rfl) T.b_range (ce_callB cs_len (by rfl) T.b_len PySem.boot_len (cv 0))) (blkOk_by (own := [(("one" : Str), 8)]) (by dsimp only [cxOf, envOfC, Cx.blk, compEnvC, relabel, Env.blockKind, Env.kindOf]; first | decide +kernel | rfl)) (fun _ _ _ _ _ => (cg_var sc__law_pieces.nd (i := 8) rfl (by first | exact Or.inl rfl | exact Or.inr rfl))) (fun _ _ _ _ _ => (cts_one fun _ => (ct_cmp (cmp_eq (hu90 hr)) (ce_ix (hu90 hr) (cv 1) (cv 8) (fun _ _ => rfl)) (cv 7) (nomark _)))) (fun _ _ _ _ _ _ => (cv 8)) (by decide))))) (by decide))))))))))
theorem sc__law_knots : FnScope ["web", "rows", "lots", "person", "lot", "other"] ["web"] (defScope s__law_knots) := ⟨rfl, rfl, rfl, by decide +kernel, rfl, by decide +kernel, by decide +kernel⟩
theorem ok__law_knots (T : Top K mg) : OkF P w K mg base 2 "_law_knots" ["web"] f__law_knots :=
  okf T.a__law_knots sc__law_knots fun f cdv A outer s H E B W hr tk =>
    (css_cons (cs_set (i := 1) sc__law_knots.nd rfl (by first | exact Or.inl rfl | exact Or.inr rfl) (cc (ok__law_found T) (hr.mono (by decide)) tk (ca_cons (cv 0) ca_nil)))
      (css_cons (cs_set (i := 2) sc__law_knots.nd rfl (by first | exact Or.inl rfl | exact Or.inr rfl) (ce_new (cl_disp ca_nil)))
      (css_cons (cs_for (passes_of rfl) rfl (ci_range (by rfl) T.b_range (ce_callB cs_len (by rfl) T.b_len PySem.boot_len (cv 0))) (cg_var sc__law_knots.nd (i := 3) rfl (by first | exact Or.inl rfl | exact Or.inr rfl)) (css_cons (cs_set (i := 4) sc__law_knots.nd rfl (by first | exact Or.inl rfl | exact Or.inr rfl) (ce_callTy cs_tup (by rfl) T.b_tuple PyProof.Rows.boot_tuple (ce_l (cl_comp (own := [(("other" : Str), 5)]) rfl sc__law_knots.nd (ci_of (ce_ix (hu90 hr) (cv 1) (cv 3) (fun _ _ => rfl))) (blkOk_by (own := [(("other" : Str), 5)]) (by dsimp only [cxOf, envOfC, Cx.blk, compEnvC, relabel, Env.blockKind, Env.kindOf]; first | decide +kernel | rfl)) (fun _ _ _ _ _ => (cg_var sc__law_knots.nd (i := 5) rfl (by first | exact Or.inl rfl | exact Or.inr rfl))) (fun _ _ _ _ _ => (cts_one fun _ => (ct_cmp (cmp_in (hu90 hr)) (cv 3) (ce_ix (hu90 hr) (cv 1) (cv 5) (fun _ _ => rfl)) (by rfl)))) (fun _ _ _ _ _ _ => (cv 5)) (by decide)))))
      (css_one (cs_if (ct_cmp (cmp_notIn (hu90 hr)) (cv 4) (cv 2) (by rfl)) (css_one (cs_app (cv 2) (cv 4))) css_nil))))
      (css_one (cs_ret (ce_callTy cs_tup (by rfl) T.b_tuple PyProof.Rows.boot_tuple (ce_l (cl_sort (hu90 hr) (by rfl) T.b_sorted (cv 2)))))))))
theorem sc__law_are_kept : FnScope ["here", "there", "one", "at", "lot"] ["here", "there"] (defScope s__law_are_kept) := ⟨rfl, rfl, rfl, by decide +kernel, rfl, by decide +kernel, by decide +kernel⟩
theorem ok__law_are_kept (T : Top K mg) : OkF P w K mg base 1 "_law_are_kept" ["here", "there"] f__law_are_kept :=
  okf T.a__law_are_kept sc__law_are_kept fun f cdv A outer s H E B W hr tk =>
    (css_one (cs_ret (ce_callB (cs_all rfl) (by rfl) T.b_all PyProof.Rows.boot_all (ce_l (cl_comp (own := [(("at" : Str), 3), (("lot" : Str), 4)]) rfl sc__law_are_kept.nd (ci_enum (by rfl) T.b_enumerate (cv 0)) (blkOk_by (own := [(("at" : Str), 3), (("lot" : Str), 4)]) (by dsimp only [cxOf, envOfC, Cx.blk, compEnvC, relabel, Env.blockKind, Env.kindOf]; first | decide +kernel | rfl)) (fun _ _ _ _ _ => (cg_set2 rfl sc__law_are_kept.nd (i := 3) (j := 4) rfl (by first | exact Or.inl rfl | exact Or.inr rfl) rfl (by first | exact Or.inl rfl | exact Or.inr rfl))) (fun _ _ _ _ _ => cts_nil) (fun _ _ _ _ _ _ => (ce_callB (cs_all rfl) (by rfl) T.b_all PyProof.Rows.boot_all (ce_l (cl_comp (own := [(("one" : Str), 2)]) rfl sc__law_are_kept.nd (ci_of (cv 4)) (blkOk_by (own := [(("one" : Str), 2)]) (by dsimp only [cxOf, envOfC, Cx.blk, compEnvC, relabel, Env.blockKind, Env.kindOf]; first | decide +kernel | rfl)) (fun _ _ _ _ _ => (cg_var sc__law_are_kept.nd (i := 2) rfl (by first | exact Or.inl rfl | exact Or.inr rfl))) (fun _ _ _ _ _ => cts_nil) (fun _ _ _ _ _ _ => (ce_cmp (cmp_in (hu90 hr)) (cv 2) (ce_ix (hu90 hr) (cv 1) (cv 3) (fun _ _ => rfl)) (by rfl))) (by decide))))) (by decide))))))
theorem sc__law_small : FnScope ["number", "web", "person", "others", "bits", "other", "at"] ["number"] (defScope s__law_small) := ⟨rfl, rfl, rfl, by decide +kernel, rfl, by decide +kernel, by decide +kernel⟩
theorem ok__law_small (T : Top K mg) : OkF P w K mg base 1 "_law_small" ["number"] f__law_small :=
  okf T.a__law_small sc__law_small fun f cdv A outer s H E B W hr tk =>
    (css_cons (cs_set (i := 1) sc__law_small.nd rfl (by first | exact Or.inl rfl | exact Or.inr rfl) (ce_new (cl_disp ca_nil)))
      (css_cons (cs_for (passes_of rfl) rfl (ci_range (by rfl) T.b_range ce_int) (cg_var sc__law_small.nd (i := 2) rfl (by first | exact Or.inl rfl | exact Or.inr rfl)) (css_cons (cs_setLc (own := [(("other" : Str), 5)]) (i := 3) rfl sc__law_small.nd rfl rfl (sw_true rfl rfl rfl (by decide +kernel)) (ci_range (by rfl) T.b_range ce_int) (blkOk_by (own := [(("other" : Str), 5)]) (by dsimp only [cxOf, envOfC, Cx.blk, compEnvC, relabel, Env.blockKind, Env.kindOf]; first | decide +kernel | rfl)) (fun _ _ _ _ _ => (cg_var sc__law_small.nd (i := 5) rfl (by first | exact Or.inl rfl | exact Or.inr rfl))) (fun _ _ _ _ _ => (cts_one fun _ => (ct_cmp (cmp_ne (hu90 hr)) (cv 5) (cv 2) (nomark _)))) (fun _ _ _ _ _ _ => (cv 5)) (by decide) (hs := by intro _; rfl) false)
      (css_cons (cs_set (i := 4) sc__law_small.nd rfl (by first | exact Or.inl rfl | exact Or.inr rfl) (ce_bin ops_mod (ce_callTy cs_int (by rfl) T.b_int PyProof.Rows.boot_int (ce_bin ops_div (cv 0) (ce_ix (hu90 hr) (ce_l (cl_disp (ca_cons ce_int (ca_cons ce_int (ca_cons ce_int ca_nil))))) (cv 2) (fun _ _ => rfl)))) ce_int))
      (css_one (cs_app (cv 1) (ce_callTy cs_tup (by rfl) T.b_tuple PyProof.Rows.boot_tuple (ce_l (cl_comp (own := [(("other" : Str), 5), (("at" : Str), 6)]) rfl sc__law_small.nd (ci_enum (by rfl) T.b_enumerate (cv 3)) (blkOk_by (own := [(("other" : Str), 5), (("at" : Str), 6)]) (by dsimp only [cxOf, envOfC, Cx.blk, compEnvC, relabel, Env.blockKind, Env.kindOf]; first | decide +kernel | rfl)) (fun _ _ _ _ _ => (cg_set2 rfl sc__law_small.nd (i := 6) (j := 5) rfl (by first | exact Or.inl rfl | exact Or.inr rfl) rfl (by first | exact Or.inl rfl | exact Or.inr rfl))) (fun _ _ _ _ _ => (cts_one fun _ => (ct_cmp (cmp_eq (hu90 hr)) (ce_bin ops_mod (ce_callTy cs_int (by rfl) T.b_int PyProof.Rows.boot_int (ce_bin ops_div (cv 4) (ce_bin ops_add ce_int (cv 6)))) ce_int) ce_int (nomark _)))) (fun _ _ _ _ _ _ => (cv 5)) (by decide)))))))))
      (css_one (cs_ret (ce_callTy cs_tup (by rfl) T.b_tuple PyProof.Rows.boot_tuple (cv 1))))))
theorem sc__law_called : FnScope ["web", "names", "made", "person", "pocket", "other"] ["web", "names"] (defScope s__law_called) := ⟨rfl, rfl, rfl, by decide +kernel, rfl, by decide +kernel, by decide +kernel⟩
theorem ok__law_called (T : Top K mg) : OkF P w K mg base 1 "_law_called" ["web", "names"] f__law_called :=
  okf T.a__law_called sc__law_called fun f cdv A outer s H E B W hr tk =>
    (css_cons (cs_set (i := 2) sc__law_called.nd rfl (by first | exact Or.inl rfl | exact Or.inr rfl) (ce_new (cl_rep (ce_l (cl_disp (ca_cons (ce_tup ca_nil) ca_nil))) (ce_callB cs_len (by rfl) T.b_len PySem.boot_len (cv 0)))))
      (css_cons (cs_for (passes_of rfl) rfl (ci_enum (by rfl) T.b_enumerate (cv 0)) (cg_set2 rfl sc__law_called.nd (i := 3) (j := 4) rfl (by first | exact Or.inl rfl | exact Or.inr rfl) rfl (by first | exact Or.inl rfl | exact Or.inr rfl)) (css_one (cs_put (cv 2) (ce_ix (hu90 hr) (cv 1) (cv 3) (fun _ _ => rfl)) (ce_callTy cs_tup (by rfl) T.b_tuple PyProof.Rows.boot_tuple (ce_l (cl_sort (hu90 hr) (by rfl) T.b_sorted (ce_l (cl_comp (own := [(("other" : Str), 5)]) rfl sc__law_called.nd (ci_of (cv 4)) (blkOk_by (own := [(("other" : Str), 5)]) (by dsimp only [cxOf, envOfC, Cx.blk, compEnvC, relabel, Env.blockKind, Env.kindOf]; first | decide +kernel | rfl)) (fun _ _ _ _ _ => (cg_var sc__law_called.nd (i := 5) rfl (by first | exact Or.inl rfl | exact Or.inr rfl))) (fun _ _ _ _ _ => cts_nil) (fun _ _ _ _ _ _ => (ce_ix (hu90 hr) (cv 1) (cv 5) (fun _ _ => rfl))) (by decide)))))))))
      (css_one (cs_ret (ce_callTy cs_tup (by rfl) T.b_tuple PyProof.Rows.boot_tuple (cv 2))))))
theorem sc__law_lots : FnScope ["lots", "names", "one", "lot"] ["lots", "names"] (defScope s__law_lots) := ⟨rfl, rfl, rfl, by decide +kernel, rfl, by decide +kernel, by decide +kernel⟩
theorem ok__law_lots (T : Top K mg) : OkF P w K mg base 1 "_law_lots" ["lots", "names"] f__law_lots :=
  okf T.a__law_lots sc__law_lots fun f cdv A outer s H E B W hr tk =>
    (css_one (cs_ret (ce_callTy cs_tup (by rfl) T.b_tuple PyProof.Rows.boot_tuple (ce_l (cl_sort (hu90 hr) (by rfl) T.b_sorted (ce_l (cl_comp (own := [(("lot" : Str), 3)]) rfl sc__law_lots.nd (ci_of (cv 0)) (blkOk_by (own := [(("lot" : Str), 3)]) (by dsimp only [cxOf, envOfC, Cx.blk, compEnvC, relabel, Env.blockKind, Env.kindOf]; first | decide +kernel | rfl)) (fun _ _ _ _ _ => (cg_var sc__law_lots.nd (i := 3) rfl (by first | exact Or.inl rfl | exact Or.inr rfl))) (fun _ _ _ _ _ => cts_nil) (fun _ _ _ _ _ _ => (ce_callTy cs_tup (by rfl) T.b_tuple PyProof.Rows.boot_tuple (ce_l (cl_sort (hu90 hr) (by rfl) T.b_sorted (ce_l (cl_comp (own := [(("one" : Str), 2)]) rfl sc__law_lots.nd (ci_of (cv 3)) (blkOk_by (own := [(("one" : Str), 2)]) (by dsimp only [cxOf, envOfC, Cx.blk, compEnvC, relabel, Env.blockKind, Env.kindOf]; first | decide +kernel | rfl)) (fun _ _ _ _ _ => (cg_var sc__law_lots.nd (i := 2) rfl (by first | exact Or.inl rfl | exact Or.inr rfl))) (fun _ _ _ _ _ => cts_nil) (fun _ _ _ _ _ _ => (ce_ix (hu90 hr) (cv 1) (cv 2) (fun _ _ => rfl))) (by decide))))))) (by decide))))))))
theorem sc__law_is_told : FnScope ["web"] ["web"] (defScope s__law_is_told) := ⟨rfl, rfl, rfl, by decide +kernel, rfl, by decide +kernel, by decide +kernel⟩
theorem ok__law_is_told (T : Top K mg) : OkF P w K mg base 8 "_law_is_told" ["web"] f__law_is_told :=
  okf T.a__law_is_told sc__law_is_told fun f cdv A outer s H E B W hr tk =>
    (css_cons (cs_if (ct_w (ct_or (ct_not (ct_val (cc (ok__law_is T 5) (hr.mono (by decide)) tk (ca_cons (cc (ok_finds T) (hr.mono (by decide)) tk (ca_cons (cv 0) ca_nil)) (ca_cons (cc (ok__law_found T) (hr.mono (by decide)) tk (ca_cons (cv 0) ca_nil)) ca_nil))))) (ct_or1 (ct_not (ct_val (cc (ok__law_is T 5) (hr.mono (by decide)) tk (ca_cons (cc (ok_pieces T) (hr.mono (by decide)) tk (ca_cons (cv 0) ca_nil)) (ca_cons (cc (ok__law_pieces T) (hr.mono (by decide)) tk (ca_cons (cv 0) ca_nil)) ca_nil)))))))) (css_one (cs_ret ce_bl)) css_nil)
      (css_one (cs_ret (cc (ok__law_is T 5) (hr.mono (by decide)) tk (ca_cons (cc (ok_knots T) (hr.mono (by decide)) tk (ca_cons (cv 0) ca_nil)) (ca_cons (cc (ok__law_knots T) (hr.mono (by decide)) tk (ca_cons (cv 0) ca_nil)) ca_nil))))))
theorem sc__law_turned_about : FnScope ["web", "one", "person"] ["web"] (defScope s__law_turned_about) := ⟨rfl, rfl, rfl, by decide +kernel, rfl, by decide +kernel, by decide +kernel⟩
theorem ok__law_turned_about (T : Top K mg) : OkF P w K mg base 1 "_law_turned_about" ["web"] f__law_turned_about :=
  okf T.a__law_turned_about sc__law_turned_about fun f cdv A outer s H E B W hr tk =>
    (css_one (cs_ret (ce_callTy cs_tup (by rfl) T.b_tuple PyProof.Rows.boot_tuple (ce_l (cl_comp (own := [(("person" : Str), 2)]) rfl sc__law_turned_about.nd (ci_range (by rfl) T.b_range (ce_callB cs_len (by rfl) T.b_len PySem.boot_len (cv 0))) (blkOk_by (own := [(("person" : Str), 2)]) (by dsimp only [cxOf, envOfC, Cx.blk, compEnvC, relabel, Env.blockKind, Env.kindOf]; first | decide +kernel | rfl)) (fun _ _ _ _ _ => (cg_var sc__law_turned_about.nd (i := 2) rfl (by first | exact Or.inl rfl | exact Or.inr rfl))) (fun _ _ _ _ _ => cts_nil) (fun _ _ _ _ _ _ => (ce_callTy cs_tup (by rfl) T.b_tuple PyProof.Rows.boot_tuple (ce_l (cl_comp (own := [(("one" : Str), 1)]) rfl sc__law_turned_about.nd (ci_range (by rfl) T.b_range (ce_callB cs_len (by rfl) T.b_len PySem.boot_len (cv 0))) (blkOk_by (own := [(("one" : Str), 1)]) (by dsimp only [cxOf, envOfC, Cx.blk, compEnvC, relabel, Env.blockKind, Env.kindOf]; first | decide +kernel | rfl)) (fun _ _ _ _ _ => (cg_var sc__law_turned_about.nd (i := 1) rfl (by first | exact Or.inl rfl | exact Or.inr rfl))) (fun _ _ _ _ _ => (cts_one fun _ => (ct_cmp (cmp_in (hu90 hr)) (cv 2) (ce_ix (hu90 hr) (cv 0) (cv 1) (fun _ _ => rfl)) (by rfl)))) (fun _ _ _ _ _ _ => (cv 1)) (by decide))))) (by decide))))))
theorem sc__law_right : FnScope ["bag", "web", "many", "left", "names", "other", "person", "card", "pocket", "more", "knot", "piece", "one"] ["bag", "web"] (defScope s__law_right) := ⟨rfl, rfl, rfl, by decide +kernel, rfl, by decide +kernel, by decide +kernel⟩
theorem ok__law_right (T : Top K mg) : OkF P w K mg base 8 "_law_right" ["bag", "web"] f__law_right :=
  okf T.a__law_right sc__law_right fun f cdv A outer s H E B W hr tk =>
    (css_cons (cs_set (i := 2) sc__law_right.nd rfl (by first | exact Or.inl rfl | exact Or.inr rfl) (ce_callB cs_len (by rfl) T.b_len PySem.boot_len (cv 1)))
      (css_cons (cs_par (i := 3) (j := 4) rfl sc__law_right.nd rfl rfl (by decide) rfl rfl (ca_cons (ce_new (cl_range rfl (by rfl) T.b_list (by rfl) T.b_range (cv 2))) (ca_cons (ce_new (cl_disp ca_nil)) ca_nil)))
      (css_cons (cs_while fuel (passes_of rfl) (ct_cmp cmp_gt (ce_callB cs_len (by rfl) T.b_len PySem.boot_len (cv 3)) ce_int (nomark _)) (css_one (cs_app (cv 4) (ce_popAt (cv 3) (cc (ok__law_pick T) (hr.mono (by decide)) tk (ca_cons (cv 0) (ca_cons (ce_callB cs_len (by rfl) T.b_len PySem.boot_len (cv 3)) ca_nil)))))))
      (css_cons (cs_set (i := 5) sc__law_right.nd rfl (by first | exact Or.inl rfl | exact Or.inr rfl) (cc (ok__law_called T) (hr.mono (by decide)) tk (ca_cons (cv 1) (ca_cons (cv 4) ca_nil))))
      (css_cons (cs_if (ct_w (ct_or (ct_cmp (cmp_ne (hu90 hr)) (cc (ok_finds T) (hr.mono (by decide)) tk (ca_cons (cv 5) ca_nil)) (cc (ok__law_called T) (hr.mono (by decide)) tk (ca_cons (cc (ok_finds T) (hr.mono (by decide)) tk (ca_cons (cv 1) ca_nil)) (ca_cons (cv 4) ca_nil))) (nomark _)) (ct_or1 (ct_cmp (cmp_ne (hu90 hr)) (cc (ok_pieces T) (hr.mono (by decide)) tk (ca_cons (cv 5) ca_nil)) (cc (ok__law_lots T) (hr.mono (by decide)) tk (ca_cons (cc (ok_pieces T) (hr.mono (by decide)) tk (ca_cons (cv 1) ca_nil)) (ca_cons (cv 4) ca_nil))) (nomark _))))) (css_one (cs_ret ce_bl)) css_nil)
      (css_cons (cs_if (ct_w (ct_or (ct_cmp (cmp_ne (hu90 hr)) (cc (ok_knots T) (hr.mono (by decide)) tk (ca_cons (cv 5) ca_nil)) (cc (ok__law_lots T) (hr.mono (by decide)) tk (ca_cons (cc (ok_knots T) (hr.mono (by decide)) tk (ca_cons (cv 1) ca_nil)) (ca_cons (cv 4) ca_nil))) (nomark _)) (ct_or1 (ct_cmp (cmp_ne (hu90 hr)) (cc (ok_knots T) (hr.mono (by decide)) tk (ca_cons (cc (ok__law_turned_about T) (hr.mono (by decide)) tk (ca_cons (cv 1) ca_nil)) ca_nil)) (cc (ok_knots T) (hr.mono (by decide)) tk (ca_cons (cv 1) ca_nil)) (nomark _))))) (css_one (cs_ret ce_bl)) css_nil)
      (css_cons (cs_par (i := 6) (j := 7) rfl sc__law_right.nd rfl rfl (by decide) rfl rfl (ca_cons (cc (ok__law_pick T) (hr.mono (by decide)) tk (ca_cons (cv 0) (ca_cons (cv 2) ca_nil))) (ca_cons (cc (ok__law_pick T) (hr.mono (by decide)) tk (ca_cons (cv 0) (ca_cons (cv 2) ca_nil))) ca_nil)))
      (css_cons (cs_if (ct_cmp (cmp_ne (hu90 hr)) (cv 6) (cv 7) (nomark _)) (css_cons (cs_set (i := 8) sc__law_right.nd rfl (by first | exact Or.inl rfl | exact Or.inr rfl) (ce_callTy cs_tup (by rfl) T.b_tuple PyProof.Rows.boot_tuple (ce_l (cl_sortSet rfl (by rfl) T.b_sorted (by rfl) T.b_set (ce_bin ops_add (ce_ix (hu90 hr) (cv 1) (cv 6) (fun _ _ => rfl)) (ce_tup (ca_cons (cv 7) ca_nil)))))))
      (css_cons (cs_set (i := 9) sc__law_right.nd rfl (by first | exact Or.inl rfl | exact Or.inr rfl) (ce_bin ops_add (ce_bin ops_add (ce_sl (cv 1) cp_no (cp_at (cv 6))) (ce_tup (ca_cons (cv 8) ca_nil))) (ce_sl (cv 1) (cp_at (ce_bin ops_add (cv 6) ce_int)) cp_no)))
      (css_cons (cs_if (ct_not (ct_val (cc (ok__law_are_kept T) (hr.mono (by decide)) tk (ca_cons (cc (ok_finds T) (hr.mono (by decide)) tk (ca_cons (cv 1) ca_nil)) (ca_cons (cc (ok_finds T) (hr.mono (by decide)) tk (ca_cons (cv 9) ca_nil)) ca_nil))))) (css_one (cs_ret ce_bl)) css_nil)
      (css_one (cs_if (ct_w (ct_or (ct_cmp (cmp_notIn (hu90 hr)) (ce_bin ops_sub (ce_callB cs_len (by rfl) T.b_len PySem.boot_len (cc (ok_pieces T) (hr.mono (by decide)) tk (ca_cons (cv 1) ca_nil))) (ce_callB cs_len (by rfl) T.b_len PySem.boot_len (cc (ok_pieces T) (hr.mono (by decide)) tk (ca_cons (cv 9) ca_nil)))) (ce_l (cl_disp (ca_cons ce_int (ca_cons ce_int ca_nil)))) (by rfl)) (ct_or1 (ct_cmp (cmp_notIn (hu90 hr)) (cv 7) (ce_ix (hu90 hr) (cc (ok_finds T) (hr.mono (by decide)) tk (ca_cons (cv 9) ca_nil)) (cv 6) (fun _ _ => rfl)) (by rfl))))) (css_one (cs_ret ce_bl)) css_nil))))) css_nil)
      (css_cons (cs_for (passes_of rfl) rfl (ci_of (cc (ok_knots T) (hr.mono (by decide)) tk (ca_cons (cv 1) ca_nil))) (cg_var sc__law_right.nd (i := 10) rfl (by first | exact Or.inl rfl | exact Or.inr rfl)) (css_one (cs_if (ct_cmp (cmp_ne (hu90 hr)) (ce_callB cs_len (by rfl) T.b_len PySem.boot_len (ce_l (cl_comp (own := [(("piece" : Str), 11)]) rfl sc__law_right.nd (ci_of (cc (ok_pieces T) (hr.mono (by decide)) tk (ca_cons (cv 1) ca_nil))) (blkOk_by (own := [(("piece" : Str), 11)]) (by dsimp only [cxOf, envOfC, Cx.blk, compEnvC, relabel, Env.blockKind, Env.kindOf]; first | decide +kernel | rfl)) (fun _ _ _ _ _ => (cg_var sc__law_right.nd (i := 11) rfl (by first | exact Or.inl rfl | exact Or.inr rfl))) (fun _ _ _ _ _ => (cts_one fun _ => (ct_val (ce_callB (cs_all rfl) (by rfl) T.b_all PyProof.Rows.boot_all (ce_l (cl_comp (own := [(("one" : Str), 12)]) rfl sc__law_right.nd (ci_of (cv 10)) (blkOk_by (own := [(("one" : Str), 12)]) (by dsimp only [cxOf, envOfC, Cx.blk, compEnvC, relabel, Env.blockKind, Env.kindOf]; first | decide +kernel | rfl)) (fun _ _ _ _ _ => (cg_var sc__law_right.nd (i := 12) rfl (by first | exact Or.inl rfl | exact Or.inr rfl))) (fun _ _ _ _ _ => cts_nil) (fun _ _ _ _ _ _ => (ce_cmp (cmp_in (hu90 hr)) (cv 12) (cv 11) (by rfl))) (by decide))))))) (fun _ _ _ _ _ _ => (cv 11)) (by decide)))) ce_int (nomark _)) (css_one (cs_ret ce_bl)) css_nil)))
      (css_one (cs_ret ce_bl)))))))))))
theorem sc_law : FnScope ["script", "bag", "first", "number", "web", "turn"] ["script"] (defScope s_law) := ⟨rfl, rfl, rfl, by decide +kernel, rfl, by decide +kernel, by decide +kernel⟩
theorem fn_law (T : Top K mg) {fa : Addr} {fd : FuncData} (h1 : Fun K "law" "law" s_law fa fd) : FnOk P w K mg base (L2.CX P w) 9 fa fd ["script"] (spF K mg w 1 f_law) :=
  okl h1 sc_law fun f cdv A outer s H E B W hr tk =>
    (css_cons (cs_set (i := 1) sc_law.nd rfl (by first | exact Or.inl rfl | exact Or.inr rfl) (cc (ok__law_bag T) (hr.mono (by decide)) tk (ca_cons (cv 0) ca_nil)))
      (css_cons (cs_set (i := 2) sc_law.nd rfl (by first | exact Or.inl rfl | exact Or.inr rfl) (cc (ok__law_pick T) (hr.mono (by decide)) tk (ca_cons (cv 1) (ca_cons ce_int ca_nil))))
      (css_cons (cs_for (passes_of rfl) rfl (ci_range3 (by rfl) T.b_range (cv 2) ce_int ce_int) (cg_var sc_law.nd (i := 3) rfl (by first | exact Or.inl rfl | exact Or.inr rfl)) (css_one (cs_if (ct_not (ct_val (cc (ok__law_is_told T) (hr.mono (by decide)) tk (ca_cons (cc (ok__law_small T) (hr.mono (by decide)) tk (ca_cons (cv 3) ca_nil)) ca_nil)))) (css_one (cs_ret ce_bl)) css_nil)))
      (css_cons (cs_for (passes_of rfl) rfl (ci_of (ce_l (cl_disp (ca_cons (ce_tup (ca_cons (ce_tup ca_nil) ca_nil)) (ca_cons (ce_tup (ca_cons (ce_tup ca_nil) (ca_cons (ce_tup ca_nil) ca_nil))) (ca_cons (ce_tup (ca_cons (ce_tup (ca_cons ce_int ca_nil)) (ca_cons (ce_tup ca_nil) ca_nil))) (ca_cons (ce_tup (ca_cons (ce_tup ca_nil) (ca_cons (ce_tup (ca_cons ce_int ca_nil)) ca_nil))) (ca_cons (ce_tup (ca_cons (ce_tup (ca_cons ce_int ca_nil)) (ca_cons (ce_tup (ca_cons ce_int ca_nil)) ca_nil))) ca_nil)))))))) (cg_var sc_law.nd (i := 4) rfl (by first | exact Or.inl rfl | exact Or.inr rfl)) (css_one (cs_if (ct_not (ct_val (cc (ok__law_is_told T) (hr.mono (by decide)) tk (ca_cons (cv 4) ca_nil)))) (css_one (cs_ret ce_bl)) css_nil)))
      (css_cons (cs_for (passes_of rfl) rfl (ci_range (by rfl) T.b_range ce_int) (cg_var sc_law.nd (i := 5) rfl (by first | exact Or.inl rfl | exact Or.inr rfl)) (css_cons (cs_set (i := 4) sc_law.nd rfl (by first | exact Or.inl rfl | exact Or.inr rfl) (cc (ok__law_web T) (hr.mono (by decide)) tk (ca_cons (cv 1) (ca_cons ce_int ca_nil))))
      (css_one (cs_if (ct_w (ct_or (ct_not (ct_val (cc (ok__law_is_told T) (hr.mono (by decide)) tk (ca_cons (cv 4) ca_nil)))) (ct_or1 (ct_not (ct_val (cc (ok__law_right T) (hr.mono (by decide)) tk (ca_cons (cv 1) (ca_cons (cv 4) ca_nil)))))))) (css_one (cs_ret ce_bl)) css_nil))))
      (css_one (cs_ret ce_bl)))))))
end
end K02
noncomputable section
set_option maxHeartbeats 4000000
namespace K02
open PySem Mi
local macro_rules | `(tactic| nested_key) => `(tactic| first
  | (with_reducible apply ev_var)
  | (with_reducible exact ev_c)
  | (with_reducible exact ev_nil)
  | (with_reducible apply ev_cons)
  | ((with_reducible show (_ : Option (R D)) = _); (with_reducible assumption))
  | (with_reducible apply ev_call)
  | (with_reducible apply ev_bin)
  | (with_reducible apply ev_ix)
  | (with_reducible apply ev_u)
  | (with_reducible apply ev_tup)
  | (with_reducible apply ev_b)
  | (with_reducible apply ev_e)
  | (with_reducible apply ev_isi)
  | (with_reducible apply ev_isi2)
  | (with_reducible apply ev_cmp)
  | (with_reducible apply ev_not)
  | (with_reducible apply ev_and)
  | (with_reducible apply ev_or)
  | (with_reducible exact ev_yes)
  | (with_reducible apply ev_chain)
  | (with_reducible apply ev_chain2)
  | ((with_reducible show andK _ _ _ = _); first | ((with_reducible apply andK_t); focus (first | rfl | assumption | (apply decide_eq_true; first | assumption | omega) | (simp only [Bool.not_eq_true', decide_eq_true_eq, decide_eq_false_iff_not, Bool.and_eq_true, Bool.or_eq_true, Bool.not_true, Bool.not_false, Bool.not_eq_false', not_true_eq_false, not_false_eq_true, isNon]; first | done | assumption | omega) | (simp; done))) | ((with_reducible apply andK_f); focus (first | rfl | assumption | (apply decide_eq_true; first | assumption | omega) | (simp only [Bool.not_eq_true', decide_eq_true_eq, decide_eq_false_iff_not, Bool.and_eq_true, Bool.or_eq_true, Bool.not_true, Bool.not_false, Bool.not_eq_false', not_true_eq_false, not_false_eq_true, isNon]; first | done | assumption | omega) | (simp; done))) | ((with_reducible apply andK_b); intro _))
  | ((with_reducible show orK _ _ _ = _); first | ((with_reducible apply orK_f); focus (first | rfl | assumption | (apply decide_eq_true; first | assumption | omega) | (simp only [Bool.not_eq_true', decide_eq_true_eq, decide_eq_false_iff_not, Bool.and_eq_true, Bool.or_eq_true, Bool.not_true, Bool.not_false, Bool.not_eq_false', not_true_eq_false, not_false_eq_true, isNon]; first | done | assumption | omega) | (simp; done))) | ((with_reducible apply orK_t); focus (first | rfl | assumption | (apply decide_eq_true; first | assumption | omega) | (simp only [Bool.not_eq_true', decide_eq_true_eq, decide_eq_false_iff_not, Bool.and_eq_true, Bool.or_eq_true, Bool.not_true, Bool.not_false, Bool.not_eq_false', not_true_eq_false, not_false_eq_true, isNon]; first | done | assumption | omega) | (simp; done))) | ((with_reducible apply orK_b); intro _))
  | (with_reducible apply ev_eand)
  | (with_reducible apply ev_eor)
  | ((with_reducible show eAndK _ _ _ = _); first | ((with_reducible apply eAndK_t); focus (first | rfl | assumption | (apply decide_eq_true; first | assumption | omega) | (simp only [Bool.not_eq_true', decide_eq_true_eq, decide_eq_false_iff_not, Bool.and_eq_true, Bool.or_eq_true, Bool.not_true, Bool.not_false, Bool.not_eq_false', not_true_eq_false, not_false_eq_true, isNon]; first | done | assumption | omega) | (simp; done))) | ((with_reducible apply eAndK_f); focus (first | rfl | assumption | (apply decide_eq_true; first | assumption | omega) | (simp only [Bool.not_eq_true', decide_eq_true_eq, decide_eq_false_iff_not, Bool.and_eq_true, Bool.or_eq_true, Bool.not_true, Bool.not_false, Bool.not_eq_false', not_true_eq_false, not_false_eq_true, isNon]; first | done | assumption | omega) | (simp; done))) | ((with_reducible apply eAndK_b); intro _))
  | ((with_reducible show eOrK _ _ _ = _); first | ((with_reducible apply eOrK_f); focus (first | rfl | assumption | (apply decide_eq_true; first | assumption | omega) | (simp only [Bool.not_eq_true', decide_eq_true_eq, decide_eq_false_iff_not, Bool.and_eq_true, Bool.or_eq_true, Bool.not_true, Bool.not_false, Bool.not_eq_false', not_true_eq_false, not_false_eq_true, isNon]; first | done | assumption | omega) | (simp; done))) | ((with_reducible apply eOrK_t); focus (first | rfl | assumption | (apply decide_eq_true; first | assumption | omega) | (simp only [Bool.not_eq_true', decide_eq_true_eq, decide_eq_false_iff_not, Bool.and_eq_true, Bool.or_eq_true, Bool.not_true, Bool.not_false, Bool.not_eq_false', not_true_eq_false, not_false_eq_true, isNon]; first | done | assumption | omega) | (simp; done))) | ((with_reducible apply eOrK_b); intro _))
  | (with_reducible apply ev_if)
  | ((with_reducible show (if _ = true then _ else _) = _); first | ((with_reducible apply if_t); focus (first | rfl | assumption | (apply decide_eq_true; first | assumption | omega) | (simp only [Bool.not_eq_true', decide_eq_true_eq, decide_eq_false_iff_not, Bool.and_eq_true, Bool.or_eq_true, Bool.not_true, Bool.not_false, Bool.not_eq_false', not_true_eq_false, not_false_eq_true, isNon]; first | done | assumption | omega) | (simp; done))) | ((with_reducible apply if_f); focus (first | rfl | assumption | (apply decide_eq_true; first | assumption | omega) | (simp only [Bool.not_eq_true', decide_eq_true_eq, decide_eq_false_iff_not, Bool.and_eq_true, Bool.or_eq_true, Bool.not_true, Bool.not_false, Bool.not_eq_false', not_true_eq_false, not_false_eq_true, isNon]; first | done | assumption | omega) | (simp; done))))
  | (with_reducible apply ev_neg)
  | (with_reducible apply ev_sl)
  | (with_reducible exact ev_pno)
  | (with_reducible apply ev_pat)
  | (with_reducible apply ev_l)
  | (with_reducible apply ev_new)
  | (with_reducible apply ev_disp)
  | (with_reducible apply ev_lof)
  | (with_reducible apply ev_ladd)
  | (with_reducible apply ev_lrange)
  | (with_reducible apply ev_lrange2)
  | (with_reducible apply ev_irange)
  | (with_reducible apply ev_irange2)
  | (with_reducible apply ev_iof)
  | (with_reducible apply ev_ienum)
  | (with_reducible apply ev_izip)
  | (with_reducible apply ev_il)
  | (with_reducible apply ev_rng)
  | (with_reducible apply ev_dct0)
  | (with_reducible apply ev_lkeys)
  | (with_reducible apply ev_lsorted)
  | (with_reducible apply ev_lsort)
  | (with_reducible apply ev_comp_all)
  | (with_reducible apply ev_comp)
  | (with_reducible apply ev_comp2_all)
  | (with_reducible apply ev_comp2)
  | (with_reducible apply ev_compIn_all)
  | (with_reducible apply ev_compIn)
  | ((with_reducible show (_ : Option RS) = _); (with_reducible assumption))
  | (with_reducible exact st_skip)
  | (with_reducible apply st_set)
  | (with_reducible apply st_asg)
  | (with_reducible apply st_aug)
  | (with_reducible apply st_par)
  | (with_reducible apply st_ret)
  | (with_reducible apply st_expr)
  | (with_reducible exact st_cont)
  | (with_reducible exact st_break)
  | (with_reducible exact st_raise)
  | (with_reducible apply sq_skip)
  | (with_reducible apply sq_ret)
  | (with_reducible apply sq_if)
  | (with_reducible apply sq_seq)
  | (with_reducible exact sq_cont)
  | (with_reducible exact sq_break)
  | (with_reducible exact sq_raise)
  | (with_reducible apply sq_nx)
  | (with_reducible apply st_if)
  | (with_reducible apply st_app)
  | (with_reducible apply st_ext)
  | (with_reducible apply st_put)
  | (with_reducible apply st_putS (f := tD (tD dN)))
  | (with_reducible apply st_putS (f := tD dN))
  | (with_reducible apply st_putS (f := pD dN dN))
  | (with_reducible apply st_for)
  | (with_reducible apply st_while)
  | ((with_reducible show _ ∈ _); assumption)
  | ((with_reducible show sortD _ _ = some _); ((with_reducible apply v_sort); (focus (first | ((with_reducible show Enc.dep _ ≤ _); exact Nat.le_of_ble_eq_true rfl) | ((with_reducible show _ < List.length (List.set _ _ _)); exact Nat.le_of_ble_eq_true rfl) | ((with_reducible show _ < List.length (List.cons _ _)); exact Nat.le_of_ble_eq_true rfl) | with_reducible assumption | omega | (simp only [List.length_map, List.length_append, List.length_set, List.length_range, List.length_range', List.length_take, List.length_drop, List.length_cons, List.length_nil, List.length_zipIdx, List.length_zip, List.length_replicate]; omega) | (apply List.mem_range.mp; assumption) | (apply_assumption -exfalso -symm (transparency := .reducible); with_reducible assumption)))))
  | ((with_reducible show _ ≤ _); (first | ((with_reducible show Enc.dep _ ≤ _); exact Nat.le_of_ble_eq_true rfl) | ((with_reducible show _ < List.length (List.set _ _ _)); exact Nat.le_of_ble_eq_true rfl) | ((with_reducible show _ < List.length (List.cons _ _)); exact Nat.le_of_ble_eq_true rfl) | with_reducible assumption | omega | (simp only [List.length_map, List.length_append, List.length_set, List.length_range, List.length_range', List.length_take, List.length_drop, List.length_cons, List.length_nil, List.length_zipIdx, List.length_zip, List.length_replicate]; omega) | (apply List.mem_range.mp; assumption) | (apply_assumption -exfalso -symm (transparency := .reducible); with_reducible assumption)))
  | ((with_reducible show _ < _); (first | ((with_reducible show Enc.dep _ ≤ _); exact Nat.le_of_ble_eq_true rfl) | ((with_reducible show _ < List.length (List.set _ _ _)); exact Nat.le_of_ble_eq_true rfl) | ((with_reducible show _ < List.length (List.cons _ _)); exact Nat.le_of_ble_eq_true rfl) | with_reducible assumption | omega | (simp only [List.length_map, List.length_append, List.length_set, List.length_range, List.length_range', List.length_take, List.length_drop, List.length_cons, List.length_nil, List.length_zipIdx, List.length_zip, List.length_replicate]; omega) | (apply List.mem_range.mp; assumption) | (apply_assumption -exfalso -symm (transparency := .reducible); with_reducible assumption)))
  | ((with_reducible show Good _); first | assumption | (apply Good.hand; assumption))
  | ((with_reducible show okLen _ = true); (apply okLen_of; (first | ((with_reducible show Enc.dep _ ≤ _); exact Nat.le_of_ble_eq_true rfl) | ((with_reducible show _ < List.length (List.set _ _ _)); exact Nat.le_of_ble_eq_true rfl) | ((with_reducible show _ < List.length (List.cons _ _)); exact Nat.le_of_ble_eq_true rfl) | with_reducible assumption | omega | (simp only [List.length_map, List.length_append, List.length_set, List.length_range, List.length_range', List.length_take, List.length_drop, List.length_cons, List.length_nil, List.length_zipIdx, List.length_zip, List.length_replicate]; omega) | (apply List.mem_range.mp; assumption) | (apply_assumption -exfalso -symm (transparency := .reducible); with_reducible assumption))))
  | ((with_reducible show (_ : Option (Option D)) = some _); rfl)
  | ((with_reducible show (_ : Option O) = some _); (first | exact at_last | rfl | assumption | (apply at_cext0; rfl) | (apply at_cext; rfl) | (apply at_ext0; rfl) | (apply at_ext; rfl) | (apply at_old; assumption) | (apply at_set; assumption) | (simp; done)))
  | ((with_reducible show Push _ _ _ _); first | (with_reducible exact push_cext) | (with_reducible exact push_ext) | (with_reducible exact push_cbase) | (with_reducible exact push_base))
  | ((with_reducible show (_ : Store) = _); first | (with_reducible exact set_c0) | (with_reducible exact set_cext0) | (with_reducible exact set_cext) | (with_reducible exact set_ext0) | (with_reducible exact set_ext) | rfl)
  | ((with_reducible show dIsi "int" _ _ = some _); (first | (with_reducible exact isi_int_int) | (with_reducible exact isi_int_tup) | (with_reducible exact isi_int_bl) | (with_reducible exact isi_int_str) | (with_reducible exact isi_int_lst) | (with_reducible exact isi_int_non) | (with_reducible exact isi_int_rol) | (with_reducible exact isi_int_dct) | ((with_reducible apply isi_int_loc); (focus (first | exact at_last | rfl | assumption | (apply at_cext0; rfl) | (apply at_cext; rfl) | (apply at_ext0; rfl) | (apply at_ext; rfl) | (apply at_old; assumption) | (apply at_set; assumption) | (simp; done)))) | ((with_reducible apply isi_int_locd); (focus (first | exact at_last | rfl | assumption | (apply at_cext0; rfl) | (apply at_cext; rfl) | (apply at_ext0; rfl) | (apply at_ext; rfl) | (apply at_old; assumption) | (apply at_set; assumption) | (simp; done))))))
  | ((with_reducible show dIsi "bool" _ _ = some _); (first | (with_reducible exact isi_bool_int) | (with_reducible exact isi_bool_tup) | (with_reducible exact isi_bool_bl) | (with_reducible exact isi_bool_str) | (with_reducible exact isi_bool_lst) | (with_reducible exact isi_bool_non) | (with_reducible exact isi_bool_rol) | (with_reducible exact isi_bool_dct) | ((with_reducible apply isi_bool_loc); (focus (first | exact at_last | rfl | assumption | (apply at_cext0; rfl) | (apply at_cext; rfl) | (apply at_ext0; rfl) | (apply at_ext; rfl) | (apply at_old; assumption) | (apply at_set; assumption) | (simp; done)))) | ((with_reducible apply isi_bool_locd); (focus (first | exact at_last | rfl | assumption | (apply at_cext0; rfl) | (apply at_cext; rfl) | (apply at_ext0; rfl) | (apply at_ext; rfl) | (apply at_old; assumption) | (apply at_set; assumption) | (simp; done))))))
  | ((with_reducible show dIsi "str" _ _ = some _); (first | (with_reducible exact isi_str_int) | (with_reducible exact isi_str_tup) | (with_reducible exact isi_str_bl) | (with_reducible exact isi_str_str) | (with_reducible exact isi_str_lst) | (with_reducible exact isi_str_non) | (with_reducible exact isi_str_rol) | (with_reducible exact isi_str_dct) | ((with_reducible apply isi_str_loc); (focus (first | exact at_last | rfl | assumption | (apply at_cext0; rfl) | (apply at_cext; rfl) | (apply at_ext0; rfl) | (apply at_ext; rfl) | (apply at_old; assumption) | (apply at_set; assumption) | (simp; done)))) | ((with_reducible apply isi_str_locd); (focus (first | exact at_last | rfl | assumption | (apply at_cext0; rfl) | (apply at_cext; rfl) | (apply at_ext0; rfl) | (apply at_ext; rfl) | (apply at_old; assumption) | (apply at_set; assumption) | (simp; done))))))
  | ((with_reducible show dIsi "tuple" _ _ = some _); (first | (with_reducible exact isi_tuple_int) | (with_reducible exact isi_tuple_tup) | (with_reducible exact isi_tuple_bl) | (with_reducible exact isi_tuple_str) | (with_reducible exact isi_tuple_lst) | (with_reducible exact isi_tuple_non) | (with_reducible exact isi_tuple_rol) | (with_reducible exact isi_tuple_dct) | ((with_reducible apply isi_tuple_loc); (focus (first | exact at_last | rfl | assumption | (apply at_cext0; rfl) | (apply at_cext; rfl) | (apply at_ext0; rfl) | (apply at_ext; rfl) | (apply at_old; assumption) | (apply at_set; assumption) | (simp; done)))) | ((with_reducible apply isi_tuple_locd); (focus (first | exact at_last | rfl | assumption | (apply at_cext0; rfl) | (apply at_cext; rfl) | (apply at_ext0; rfl) | (apply at_ext; rfl) | (apply at_old; assumption) | (apply at_set; assumption) | (simp; done))))))
  | ((with_reducible show dIsi "list" _ _ = some _); (first | (with_reducible exact isi_list_int) | (with_reducible exact isi_list_tup) | (with_reducible exact isi_list_bl) | (with_reducible exact isi_list_str) | (with_reducible exact isi_list_lst) | (with_reducible exact isi_list_non) | (with_reducible exact isi_list_rol) | (with_reducible exact isi_list_dct) | ((with_reducible apply isi_list_loc); (focus (first | exact at_last | rfl | assumption | (apply at_cext0; rfl) | (apply at_cext; rfl) | (apply at_ext0; rfl) | (apply at_ext; rfl) | (apply at_old; assumption) | (apply at_set; assumption) | (simp; done)))) | ((with_reducible apply isi_list_locd); (focus (first | exact at_last | rfl | assumption | (apply at_cext0; rfl) | (apply at_cext; rfl) | (apply at_ext0; rfl) | (apply at_ext; rfl) | (apply at_old; assumption) | (apply at_set; assumption) | (simp; done))))))
  | ((with_reducible show dIsi "dict" _ _ = some _); (first | (with_reducible exact isi_dict_int) | (with_reducible exact isi_dict_tup) | (with_reducible exact isi_dict_bl) | (with_reducible exact isi_dict_str) | (with_reducible exact isi_dict_lst) | (with_reducible exact isi_dict_non) | (with_reducible exact isi_dict_rol) | (with_reducible exact isi_dict_dct) | ((with_reducible apply isi_dict_loc); (focus (first | exact at_last | rfl | assumption | (apply at_cext0; rfl) | (apply at_cext; rfl) | (apply at_ext0; rfl) | (apply at_ext; rfl) | (apply at_old; assumption) | (apply at_set; assumption) | (simp; done)))) | ((with_reducible apply isi_dict_locd); (focus (first | exact at_last | rfl | assumption | (apply at_cext0; rfl) | (apply at_cext; rfl) | (apply at_ext0; rfl) | (apply at_ext; rfl) | (apply at_old; assumption) | (apply at_set; assumption) | (simp; done))))))
  | ((with_reducible show dIsi2 _ _ _ _ = some _); ((with_reducible apply isi2_of); (focus (first | (with_reducible exact isi_int_int) | (with_reducible exact isi_bool_int) | (with_reducible exact isi_str_int) | (with_reducible exact isi_tuple_int) | (with_reducible exact isi_list_int) | (with_reducible exact isi_dict_int) | (with_reducible exact isi_int_tup) | (with_reducible exact isi_bool_tup) | (with_reducible exact isi_str_tup) | (with_reducible exact isi_tuple_tup) | (with_reducible exact isi_list_tup) | (with_reducible exact isi_dict_tup) | (with_reducible exact isi_int_bl) | (with_reducible exact isi_bool_bl) | (with_reducible exact isi_str_bl) | (with_reducible exact isi_tuple_bl) | (with_reducible exact isi_list_bl) | (with_reducible exact isi_dict_bl) | (with_reducible exact isi_int_str) | (with_reducible exact isi_bool_str) | (with_reducible exact isi_str_str) | (with_reducible exact isi_tuple_str) | (with_reducible exact isi_list_str) | (with_reducible exact isi_dict_str) | (with_reducible exact isi_int_lst) | (with_reducible exact isi_bool_lst) | (with_reducible exact isi_str_lst) | (with_reducible exact isi_tuple_lst) | (with_reducible exact isi_list_lst) | (with_reducible exact isi_dict_lst) | (with_reducible exact isi_int_non) | (with_reducible exact isi_bool_non) | (with_reducible exact isi_str_non) | (with_reducible exact isi_tuple_non) | (with_reducible exact isi_list_non) | (with_reducible exact isi_dict_non) | (with_reducible exact isi_int_rol) | (with_reducible exact isi_bool_rol) | (with_reducible exact isi_str_rol) | (with_reducible exact isi_tuple_rol) | (with_reducible exact isi_list_rol) | (with_reducible exact isi_dict_rol) | (with_reducible exact isi_int_dct) | (with_reducible exact isi_bool_dct) | (with_reducible exact isi_str_dct) | (with_reducible exact isi_tuple_dct) | (with_reducible exact isi_list_dct) | (with_reducible exact isi_dict_dct) | ((with_reducible apply isi_int_loc); (focus (first | exact at_last | rfl | assumption | (apply at_cext0; rfl) | (apply at_cext; rfl) | (apply at_ext0; rfl) | (apply at_ext; rfl) | (apply at_old; assumption) | (apply at_set; assumption) | (simp; done)))) | ((with_reducible apply isi_bool_loc); (focus (first | exact at_last | rfl | assumption | (apply at_cext0; rfl) | (apply at_cext; rfl) | (apply at_ext0; rfl) | (apply at_ext; rfl) | (apply at_old; assumption) | (apply at_set; assumption) | (simp; done)))) | ((with_reducible apply isi_str_loc); (focus (first | exact at_last | rfl | assumption | (apply at_cext0; rfl) | (apply at_cext; rfl) | (apply at_ext0; rfl) | (apply at_ext; rfl) | (apply at_old; assumption) | (apply at_set; assumption) | (simp; done)))) | ((with_reducible apply isi_tuple_loc); (focus (first | exact at_last | rfl | assumption | (apply at_cext0; rfl) | (apply at_cext; rfl) | (apply at_ext0; rfl) | (apply at_ext; rfl) | (apply at_old; assumption) | (apply at_set; assumption) | (simp; done)))) | ((with_reducible apply isi_list_loc); (focus (first | exact at_last | rfl | assumption | (apply at_cext0; rfl) | (apply at_cext; rfl) | (apply at_ext0; rfl) | (apply at_ext; rfl) | (apply at_old; assumption) | (apply at_set; assumption) | (simp; done)))) | ((with_reducible apply isi_dict_loc); (focus (first | exact at_last | rfl | assumption | (apply at_cext0; rfl) | (apply at_cext; rfl) | (apply at_ext0; rfl) | (apply at_ext; rfl) | (apply at_old; assumption) | (apply at_set; assumption) | (simp; done)))) | ((with_reducible apply isi_int_locd); (focus (first | exact at_last | rfl | assumption | (apply at_cext0; rfl) | (apply at_cext; rfl) | (apply at_ext0; rfl) | (apply at_ext; rfl) | (apply at_old; assumption) | (apply at_set; assumption) | (simp; done)))) | ((with_reducible apply isi_bool_locd); (focus (first | exact at_last | rfl | assumption | (apply at_cext0; rfl) | (apply at_cext; rfl) | (apply at_ext0; rfl) | (apply at_ext; rfl) | (apply at_old; assumption) | (apply at_set; assumption) | (simp; done)))) | ((with_reducible apply isi_str_locd); (focus (first | exact at_last | rfl | assumption | (apply at_cext0; rfl) | (apply at_cext; rfl) | (apply at_ext0; rfl) | (apply at_ext; rfl) | (apply at_old; assumption) | (apply at_set; assumption) | (simp; done)))) | ((with_reducible apply isi_tuple_locd); (focus (first | exact at_last | rfl | assumption | (apply at_cext0; rfl) | (apply at_cext; rfl) | (apply at_ext0; rfl) | (apply at_ext; rfl) | (apply at_old; assumption) | (apply at_set; assumption) | (simp; done)))) | ((with_reducible apply isi_list_locd); (focus (first | exact at_last | rfl | assumption | (apply at_cext0; rfl) | (apply at_cext; rfl) | (apply at_ext0; rfl) | (apply at_ext; rfl) | (apply at_old; assumption) | (apply at_set; assumption) | (simp; done)))) | ((with_reducible apply isi_dict_locd); (focus (first | exact at_last | rfl | assumption | (apply at_cext0; rfl) | (apply at_cext; rfl) | (apply at_ext0; rfl) | (apply at_ext; rfl) | (apply at_old; assumption) | (apply at_set; assumption) | (simp; done)))))); (focus (first | (with_reducible exact isi_int_int) | (with_reducible exact isi_bool_int) | (with_reducible exact isi_str_int) | (with_reducible exact isi_tuple_int) | (with_reducible exact isi_list_int) | (with_reducible exact isi_dict_int) | (with_reducible exact isi_int_tup) | (with_reducible exact isi_bool_tup) | (with_reducible exact isi_str_tup) | (with_reducible exact isi_tuple_tup) | (with_reducible exact isi_list_tup) | (with_reducible exact isi_dict_tup) | (with_reducible exact isi_int_bl) | (with_reducible exact isi_bool_bl) | (with_reducible exact isi_str_bl) | (with_reducible exact isi_tuple_bl) | (with_reducible exact isi_list_bl) | (with_reducible exact isi_dict_bl) | (with_reducible exact isi_int_str) | (with_reducible exact isi_bool_str) | (with_reducible exact isi_str_str) | (with_reducible exact isi_tuple_str) | (with_reducible exact isi_list_str) | (with_reducible exact isi_dict_str) | (with_reducible exact isi_int_lst) | (with_reducible exact isi_bool_lst) | (with_reducible exact isi_str_lst) | (with_reducible exact isi_tuple_lst) | (with_reducible exact isi_list_lst) | (with_reducible exact isi_dict_lst) | (with_reducible exact isi_int_non) | (with_reducible exact isi_bool_non) | (with_reducible exact isi_str_non) | (with_reducible exact isi_tuple_non) | (with_reducible exact isi_list_non) | (with_reducible exact isi_dict_non) | (with_reducible exact isi_int_rol) | (with_reducible exact isi_bool_rol) | (with_reducible exact isi_str_rol) | (with_reducible exact isi_tuple_rol) | (with_reducible exact isi_list_rol) | (with_reducible exact isi_dict_rol) | (with_reducible exact isi_int_dct) | (with_reducible exact isi_bool_dct) | (with_reducible exact isi_str_dct) | (with_reducible exact isi_tuple_dct) | (with_reducible exact isi_list_dct) | (with_reducible exact isi_dict_dct) | ((with_reducible apply isi_int_loc); (focus (first | exact at_last | rfl | assumption | (apply at_cext0; rfl) | (apply at_cext; rfl) | (apply at_ext0; rfl) | (apply at_ext; rfl) | (apply at_old; assumption) | (apply at_set; assumption) | (simp; done)))) | ((with_reducible apply isi_bool_loc); (focus (first | exact at_last | rfl | assumption | (apply at_cext0; rfl) | (apply at_cext; rfl) | (apply at_ext0; rfl) | (apply at_ext; rfl) | (apply at_old; assumption) | (apply at_set; assumption) | (simp; done)))) | ((with_reducible apply isi_str_loc); (focus (first | exact at_last | rfl | assumption | (apply at_cext0; rfl) | (apply at_cext; rfl) | (apply at_ext0; rfl) | (apply at_ext; rfl) | (apply at_old; assumption) | (apply at_set; assumption) | (simp; done)))) | ((with_reducible apply isi_tuple_loc); (focus (first | exact at_last | rfl | assumption | (apply at_cext0; rfl) | (apply at_cext; rfl) | (apply at_ext0; rfl) | (apply at_ext; rfl) | (apply at_old; assumption) | (apply at_set; assumption) | (simp; done)))) | ((with_reducible apply isi_list_loc); (focus (first | exact at_last | rfl | assumption | (apply at_cext0; rfl) | (apply at_cext; rfl) | (apply at_ext0; rfl) | (apply at_ext; rfl) | (apply at_old; assumption) | (apply at_set; assumption) | (simp; done)))) | ((with_reducible apply isi_dict_loc); (focus (first | exact at_last | rfl | assumption | (apply at_cext0; rfl) | (apply at_cext; rfl) | (apply at_ext0; rfl) | (apply at_ext; rfl) | (apply at_old; assumption) | (apply at_set; assumption) | (simp; done)))) | ((with_reducible apply isi_int_locd); (focus (first | exact at_last | rfl | assumption | (apply at_cext0; rfl) | (apply at_cext; rfl) | (apply at_ext0; rfl) | (apply at_ext; rfl) | (apply at_old; assumption) | (apply at_set; assumption) | (simp; done)))) | ((with_reducible apply isi_bool_locd); (focus (first | exact at_last | rfl | assumption | (apply at_cext0; rfl) | (apply at_cext; rfl) | (apply at_ext0; rfl) | (apply at_ext; rfl) | (apply at_old; assumption) | (apply at_set; assumption) | (simp; done)))) | ((with_reducible apply isi_str_locd); (focus (first | exact at_last | rfl | assumption | (apply at_cext0; rfl) | (apply at_cext; rfl) | (apply at_ext0; rfl) | (apply at_ext; rfl) | (apply at_old; assumption) | (apply at_set; assumption) | (simp; done)))) | ((with_reducible apply isi_tuple_locd); (focus (first | exact at_last | rfl | assumption | (apply at_cext0; rfl) | (apply at_cext; rfl) | (apply at_ext0; rfl) | (apply at_ext; rfl) | (apply at_old; assumption) | (apply at_set; assumption) | (simp; done)))) | ((with_reducible apply isi_list_locd); (focus (first | exact at_last | rfl | assumption | (apply at_cext0; rfl) | (apply at_cext; rfl) | (apply at_ext0; rfl) | (apply at_ext; rfl) | (apply at_old; assumption) | (apply at_set; assumption) | (simp; done)))) | ((with_reducible apply isi_dict_locd); (focus (first | exact at_last | rfl | assumption | (apply at_cext0; rfl) | (apply at_cext; rfl) | (apply at_ext0; rfl) | (apply at_ext; rfl) | (apply at_old; assumption) | (apply at_set; assumption) | (simp; done))))))))
  | ((with_reducible show srcOf _ = some _); first | (with_reducible exact src_rng) | (with_reducible exact src_nn) | (with_reducible exact src_ii) | rfl)
  | ((with_reducible show enumOf _ = some _); first | (with_reducible exact enum_t) | (with_reducible exact enum_l))
  | ((with_reducible show zipOf _ _ = some _); first | (with_reducible exact zip_tt) | (with_reducible exact zip_ll))
  | ((with_reducible show seqOf _ _ = some _); first | rfl | (apply seq_loc; (first | exact at_last | rfl | assumption | (apply at_cext0; rfl) | (apply at_cext; rfl) | (apply at_ext0; rfl) | (apply at_ext; rfl) | (apply at_old; assumption) | (apply at_set; assumption) | (simp; done))))
  | ((with_reducible show lstOf _ _ = some _); first | rfl | (apply lst_loc; (first | exact at_last | rfl | assumption | (apply at_cext0; rfl) | (apply at_cext; rfl) | (apply at_ext0; rfl) | (apply at_ext; rfl) | (apply at_old; assumption) | (apply at_set; assumption) | (simp; done))))
  | ((with_reducible show gVar _ _ _ = some _); rfl)
  | ((with_reducible show gSet2 _ _ _ _ = some _); rfl)
  | ((with_reducible show gSet3 _ _ _ _ _ = some _); rfl)
  | ((with_reducible show dIx _ _ _ = some _); first | ((with_reducible apply v_ix_t); (focus (first | ((with_reducible show Enc.dep _ ≤ _); exact Nat.le_of_ble_eq_true rfl) | ((with_reducible show _ < List.length (List.set _ _ _)); exact Nat.le_of_ble_eq_true rfl) | ((with_reducible show _ < List.length (List.cons _ _)); exact Nat.le_of_ble_eq_true rfl) | with_reducible assumption | omega | (simp only [List.length_map, List.length_append, List.length_set, List.length_range, List.length_range', List.length_take, List.length_drop, List.length_cons, List.length_nil, List.length_zipIdx, List.length_zip, List.length_replicate]; omega) | (apply List.mem_range.mp; assumption) | (apply_assumption -exfalso -symm (transparency := .reducible); with_reducible assumption)))) | ((with_reducible apply v_ix_l); (focus (first | ((with_reducible show Enc.dep _ ≤ _); exact Nat.le_of_ble_eq_true rfl) | ((with_reducible show _ < List.length (List.set _ _ _)); exact Nat.le_of_ble_eq_true rfl) | ((with_reducible show _ < List.length (List.cons _ _)); exact Nat.le_of_ble_eq_true rfl) | with_reducible assumption | omega | (simp only [List.length_map, List.length_append, List.length_set, List.length_range, List.length_range', List.length_take, List.length_drop, List.length_cons, List.length_nil, List.length_zipIdx, List.length_zip, List.length_replicate]; omega) | (apply List.mem_range.mp; assumption) | (apply_assumption -exfalso -symm (transparency := .reducible); with_reducible assumption)))) | ((with_reducible apply ix_loc); focus (first | exact at_last | rfl | assumption | (apply at_cext0; rfl) | (apply at_cext; rfl) | (apply at_ext0; rfl) | (apply at_ext; rfl) | (apply at_old; assumption) | (apply at_set; assumption) | (simp; done))) | ((with_reducible apply v_ix_last); (focus assumption)) | rfl)
  | ((with_reducible show dSl _ _ _ _ = some _); first | (with_reducible exact v_sl_from (.inr trivial)) | (with_reducible exact v_sl_to) | (with_reducible exact v_sl_from_l) | (with_reducible exact v_sl_to_l) | (with_reducible exact v_sl_to_r) | ((with_reducible apply sl_loc); focus (first | exact at_last | rfl | assumption | (apply at_cext0; rfl) | (apply at_cext; rfl) | (apply at_ext0; rfl) | (apply at_ext; rfl) | (apply at_old; assumption) | (apply at_set; assumption) | (simp; done))))
  | ((with_reducible show oAdd _ _ = some _); first | (with_reducible exact o_add_nn) | ((with_reducible apply o_add_t1); (focus (first | ((with_reducible show Enc.dep _ ≤ _); exact Nat.le_of_ble_eq_true rfl) | ((with_reducible show _ < List.length (List.set _ _ _)); exact Nat.le_of_ble_eq_true rfl) | ((with_reducible show _ < List.length (List.cons _ _)); exact Nat.le_of_ble_eq_true rfl) | with_reducible assumption | omega | (simp only [List.length_map, List.length_append, List.length_set, List.length_range, List.length_range', List.length_take, List.length_drop, List.length_cons, List.length_nil, List.length_zipIdx, List.length_zip, List.length_replicate]; omega) | (apply List.mem_range.mp; assumption) | (apply_assumption -exfalso -symm (transparency := .reducible); with_reducible assumption)))) | ((with_reducible apply o_add_1t); (focus (first | ((with_reducible show Enc.dep _ ≤ _); exact Nat.le_of_ble_eq_true rfl) | ((with_reducible show _ < List.length (List.set _ _ _)); exact Nat.le_of_ble_eq_true rfl) | ((with_reducible show _ < List.length (List.cons _ _)); exact Nat.le_of_ble_eq_true rfl) | with_reducible assumption | omega | (simp only [List.length_map, List.length_append, List.length_set, List.length_range, List.length_range', List.length_take, List.length_drop, List.length_cons, List.length_nil, List.length_zipIdx, List.length_zip, List.length_replicate]; omega) | (apply List.mem_range.mp; assumption) | (apply_assumption -exfalso -symm (transparency := .reducible); with_reducible assumption)))) | ((with_reducible apply o_add_tt); (focus (first | ((with_reducible show Enc.dep _ ≤ _); exact Nat.le_of_ble_eq_true rfl) | ((with_reducible show _ < List.length (List.set _ _ _)); exact Nat.le_of_ble_eq_true rfl) | ((with_reducible show _ < List.length (List.cons _ _)); exact Nat.le_of_ble_eq_true rfl) | with_reducible assumption | omega | (simp only [List.length_map, List.length_append, List.length_set, List.length_range, List.length_range', List.length_take, List.length_drop, List.length_cons, List.length_nil, List.length_zipIdx, List.length_zip, List.length_replicate]; omega) | (apply List.mem_range.mp; assumption) | (apply_assumption -exfalso -symm (transparency := .reducible); with_reducible assumption)))) | (with_reducible exact o_add_ii))
  | ((with_reducible show oAddI _ _ = some _); first | (with_reducible exact o_addI_nn) | (with_reducible exact o_addI_ii))
  | ((with_reducible show oSub _ _ = some _); first | ((with_reducible apply o_sub_nn); (focus (first | ((with_reducible show Enc.dep _ ≤ _); exact Nat.le_of_ble_eq_true rfl) | ((with_reducible show _ < List.length (List.set _ _ _)); exact Nat.le_of_ble_eq_true rfl) | ((with_reducible show _ < List.length (List.cons _ _)); exact Nat.le_of_ble_eq_true rfl) | with_reducible assumption | omega | (simp only [List.length_map, List.length_append, List.length_set, List.length_range, List.length_range', List.length_take, List.length_drop, List.length_cons, List.length_nil, List.length_zipIdx, List.length_zip, List.length_replicate]; omega) | (apply List.mem_range.mp; assumption) | (apply_assumption -exfalso -symm (transparency := .reducible); with_reducible assumption)))) | (with_reducible exact o_sub_ii))
  | ((with_reducible show oMul _ _ = some _); first | ((with_reducible apply o_mul_nn); (focus (first | ((with_reducible show Enc.dep _ ≤ _); exact Nat.le_of_ble_eq_true rfl) | ((with_reducible show _ < List.length (List.set _ _ _)); exact Nat.le_of_ble_eq_true rfl) | ((with_reducible show _ < List.length (List.cons _ _)); exact Nat.le_of_ble_eq_true rfl) | with_reducible assumption | omega | (simp only [List.length_map, List.length_append, List.length_set, List.length_range, List.length_range', List.length_take, List.length_drop, List.length_cons, List.length_nil, List.length_zipIdx, List.length_zip, List.length_replicate]; omega) | (apply List.mem_range.mp; assumption) | (apply_assumption -exfalso -symm (transparency := .reducible); with_reducible assumption)))) | ((with_reducible apply o_mul_nl); (focus (first | ((with_reducible show Enc.dep _ ≤ _); exact Nat.le_of_ble_eq_true rfl) | ((with_reducible show _ < List.length (List.set _ _ _)); exact Nat.le_of_ble_eq_true rfl) | ((with_reducible show _ < List.length (List.cons _ _)); exact Nat.le_of_ble_eq_true rfl) | with_reducible assumption | omega | (simp only [List.length_map, List.length_append, List.length_set, List.length_range, List.length_range', List.length_take, List.length_drop, List.length_cons, List.length_nil, List.length_zipIdx, List.length_zip, List.length_replicate]; omega) | (apply List.mem_range.mp; assumption) | (apply_assumption -exfalso -symm (transparency := .reducible); with_reducible assumption)))) | ((with_reducible apply o_mul_ln); (focus (first | ((with_reducible show Enc.dep _ ≤ _); exact Nat.le_of_ble_eq_true rfl) | ((with_reducible show _ < List.length (List.set _ _ _)); exact Nat.le_of_ble_eq_true rfl) | ((with_reducible show _ < List.length (List.cons _ _)); exact Nat.le_of_ble_eq_true rfl) | with_reducible assumption | omega | (simp only [List.length_map, List.length_append, List.length_set, List.length_range, List.length_range', List.length_take, List.length_drop, List.length_cons, List.length_nil, List.length_zipIdx, List.length_zip, List.length_replicate]; omega) | (apply List.mem_range.mp; assumption) | (apply_assumption -exfalso -symm (transparency := .reducible); with_reducible assumption)))))
  | ((with_reducible show oMod _ _ = some _); first | ((with_reducible apply o_mod_nn); (focus (first | ((with_reducible show Enc.dep _ ≤ _); exact Nat.le_of_ble_eq_true rfl) | ((with_reducible show _ < List.length (List.set _ _ _)); exact Nat.le_of_ble_eq_true rfl) | ((with_reducible show _ < List.length (List.cons _ _)); exact Nat.le_of_ble_eq_true rfl) | with_reducible assumption | omega | (simp only [List.length_map, List.length_append, List.length_set, List.length_range, List.length_range', List.length_take, List.length_drop, List.length_cons, List.length_nil, List.length_zipIdx, List.length_zip, List.length_replicate]; omega) | (apply List.mem_range.mp; assumption) | (apply_assumption -exfalso -symm (transparency := .reducible); with_reducible assumption)))))
  | ((with_reducible show oPow _ _ = some _); first | (with_reducible exact o_pow_18))
  | ((with_reducible show oDiv _ _ = some _); first | ((with_reducible apply o_div_nn); (focus (first | ((with_reducible show Enc.dep _ ≤ _); exact Nat.le_of_ble_eq_true rfl) | ((with_reducible show _ < List.length (List.set _ _ _)); exact Nat.le_of_ble_eq_true rfl) | ((with_reducible show _ < List.length (List.cons _ _)); exact Nat.le_of_ble_eq_true rfl) | with_reducible assumption | omega | (simp only [List.length_map, List.length_append, List.length_set, List.length_range, List.length_range', List.length_take, List.length_drop, List.length_cons, List.length_nil, List.length_zipIdx, List.length_zip, List.length_replicate]; omega) | (apply List.mem_range.mp; assumption) | (apply_assumption -exfalso -symm (transparency := .reducible); with_reducible assumption))); (focus (first | ((with_reducible show Enc.dep _ ≤ _); exact Nat.le_of_ble_eq_true rfl) | ((with_reducible show _ < List.length (List.set _ _ _)); exact Nat.le_of_ble_eq_true rfl) | ((with_reducible show _ < List.length (List.cons _ _)); exact Nat.le_of_ble_eq_true rfl) | with_reducible assumption | omega | (simp only [List.length_map, List.length_append, List.length_set, List.length_range, List.length_range', List.length_take, List.length_drop, List.length_cons, List.length_nil, List.length_zipIdx, List.length_zip, List.length_replicate]; omega) | (apply List.mem_range.mp; assumption) | (apply_assumption -exfalso -symm (transparency := .reducible); with_reducible assumption)))))
  | ((with_reducible show oMin _ _ = some _); first | (with_reducible exact o_min_nn))
  | ((with_reducible show oMax _ _ = some _); first | (with_reducible exact o_max_nn))
  | ((with_reducible show dLt _ _ _ = some _); first | (with_reducible exact c_lt_nn) | (with_reducible exact c_lt_ii))
  | ((with_reducible show dLe _ _ _ = some _); first | (with_reducible exact c_le_nn) | (with_reducible exact c_le_ii))
  | ((with_reducible show dGt _ _ _ = some _); first | (with_reducible exact c_gt_nn) | (with_reducible exact c_gt_ii))
  | ((with_reducible show dGe _ _ _ = some _); first | (with_reducible exact c_ge_nn) | (with_reducible exact c_ge_ii))
  | ((with_reducible show dEq _ _ _ = some _); first | ((with_reducible apply c_eq_l0); (focus (first | ((with_reducible show Enc.dep _ ≤ _); exact Nat.le_of_ble_eq_true rfl) | ((with_reducible show _ < List.length (List.set _ _ _)); exact Nat.le_of_ble_eq_true rfl) | ((with_reducible show _ < List.length (List.cons _ _)); exact Nat.le_of_ble_eq_true rfl) | with_reducible assumption | omega | (simp only [List.length_map, List.length_append, List.length_set, List.length_range, List.length_range', List.length_take, List.length_drop, List.length_cons, List.length_nil, List.length_zipIdx, List.length_zip, List.length_replicate]; omega) | (apply List.mem_range.mp; assumption) | (apply_assumption -exfalso -symm (transparency := .reducible); with_reducible assumption)))) | ((with_reducible apply c_eq_t0); (focus (first | ((with_reducible show Enc.dep _ ≤ _); exact Nat.le_of_ble_eq_true rfl) | ((with_reducible show _ < List.length (List.set _ _ _)); exact Nat.le_of_ble_eq_true rfl) | ((with_reducible show _ < List.length (List.cons _ _)); exact Nat.le_of_ble_eq_true rfl) | with_reducible assumption | omega | (simp only [List.length_map, List.length_append, List.length_set, List.length_range, List.length_range', List.length_take, List.length_drop, List.length_cons, List.length_nil, List.length_zipIdx, List.length_zip, List.length_replicate]; omega) | (apply List.mem_range.mp; assumption) | (apply_assumption -exfalso -symm (transparency := .reducible); with_reducible assumption)))) | ((with_reducible apply c_eq (f := dN)); (focus (first | ((with_reducible show Enc.dep _ ≤ _); exact Nat.le_of_ble_eq_true rfl) | ((with_reducible show _ < List.length (List.set _ _ _)); exact Nat.le_of_ble_eq_true rfl) | ((with_reducible show _ < List.length (List.cons _ _)); exact Nat.le_of_ble_eq_true rfl) | with_reducible assumption | omega | (simp only [List.length_map, List.length_append, List.length_set, List.length_range, List.length_range', List.length_take, List.length_drop, List.length_cons, List.length_nil, List.length_zipIdx, List.length_zip, List.length_replicate]; omega) | (apply List.mem_range.mp; assumption) | (apply_assumption -exfalso -symm (transparency := .reducible); with_reducible assumption)))) | ((with_reducible apply c_eq (f := iN)); (focus (first | ((with_reducible show Enc.dep _ ≤ _); exact Nat.le_of_ble_eq_true rfl) | ((with_reducible show _ < List.length (List.set _ _ _)); exact Nat.le_of_ble_eq_true rfl) | ((with_reducible show _ < List.length (List.cons _ _)); exact Nat.le_of_ble_eq_true rfl) | with_reducible assumption | omega | (simp only [List.length_map, List.length_append, List.length_set, List.length_range, List.length_range', List.length_take, List.length_drop, List.length_cons, List.length_nil, List.length_zipIdx, List.length_zip, List.length_replicate]; omega) | (apply List.mem_range.mp; assumption) | (apply_assumption -exfalso -symm (transparency := .reducible); with_reducible assumption)))) | ((with_reducible apply c_eq (f := bN)); (focus (first | ((with_reducible show Enc.dep _ ≤ _); exact Nat.le_of_ble_eq_true rfl) | ((with_reducible show _ < List.length (List.set _ _ _)); exact Nat.le_of_ble_eq_true rfl) | ((with_reducible show _ < List.length (List.cons _ _)); exact Nat.le_of_ble_eq_true rfl) | with_reducible assumption | omega | (simp only [List.length_map, List.length_append, List.length_set, List.length_range, List.length_range', List.length_take, List.length_drop, List.length_cons, List.length_nil, List.length_zipIdx, List.length_zip, List.length_replicate]; omega) | (apply List.mem_range.mp; assumption) | (apply_assumption -exfalso -symm (transparency := .reducible); with_reducible assumption)))) | ((with_reducible apply c_eq (f := tD _)); (focus (first | ((with_reducible show Enc.dep _ ≤ _); exact Nat.le_of_ble_eq_true rfl) | ((with_reducible show _ < List.length (List.set _ _ _)); exact Nat.le_of_ble_eq_true rfl) | ((with_reducible show _ < List.length (List.cons _ _)); exact Nat.le_of_ble_eq_true rfl) | with_reducible assumption | omega | (simp only [List.length_map, List.length_append, List.length_set, List.length_range, List.length_range', List.length_take, List.length_drop, List.length_cons, List.length_nil, List.length_zipIdx, List.length_zip, List.length_replicate]; omega) | (apply List.mem_range.mp; assumption) | (apply_assumption -exfalso -symm (transparency := .reducible); with_reducible assumption)))) | ((with_reducible apply c_eq (f := lD _)); (focus (first | ((with_reducible show Enc.dep _ ≤ _); exact Nat.le_of_ble_eq_true rfl) | ((with_reducible show _ < List.length (List.set _ _ _)); exact Nat.le_of_ble_eq_true rfl) | ((with_reducible show _ < List.length (List.cons _ _)); exact Nat.le_of_ble_eq_true rfl) | with_reducible assumption | omega | (simp only [List.length_map, List.length_append, List.length_set, List.length_range, List.length_range', List.length_take, List.length_drop, List.length_cons, List.length_nil, List.length_zipIdx, List.length_zip, List.length_replicate]; omega) | (apply List.mem_range.mp; assumption) | (apply_assumption -exfalso -symm (transparency := .reducible); with_reducible assumption)))))
  | ((with_reducible show dNe _ _ _ = some _); first | ((with_reducible apply c_ne_l0); (focus (first | ((with_reducible show Enc.dep _ ≤ _); exact Nat.le_of_ble_eq_true rfl) | ((with_reducible show _ < List.length (List.set _ _ _)); exact Nat.le_of_ble_eq_true rfl) | ((with_reducible show _ < List.length (List.cons _ _)); exact Nat.le_of_ble_eq_true rfl) | with_reducible assumption | omega | (simp only [List.length_map, List.length_append, List.length_set, List.length_range, List.length_range', List.length_take, List.length_drop, List.length_cons, List.length_nil, List.length_zipIdx, List.length_zip, List.length_replicate]; omega) | (apply List.mem_range.mp; assumption) | (apply_assumption -exfalso -symm (transparency := .reducible); with_reducible assumption)))) | ((with_reducible apply c_ne_t0); (focus (first | ((with_reducible show Enc.dep _ ≤ _); exact Nat.le_of_ble_eq_true rfl) | ((with_reducible show _ < List.length (List.set _ _ _)); exact Nat.le_of_ble_eq_true rfl) | ((with_reducible show _ < List.length (List.cons _ _)); exact Nat.le_of_ble_eq_true rfl) | with_reducible assumption | omega | (simp only [List.length_map, List.length_append, List.length_set, List.length_range, List.length_range', List.length_take, List.length_drop, List.length_cons, List.length_nil, List.length_zipIdx, List.length_zip, List.length_replicate]; omega) | (apply List.mem_range.mp; assumption) | (apply_assumption -exfalso -symm (transparency := .reducible); with_reducible assumption)))) | ((with_reducible apply c_ne (f := dN)); (focus (first | ((with_reducible show Enc.dep _ ≤ _); exact Nat.le_of_ble_eq_true rfl) | ((with_reducible show _ < List.length (List.set _ _ _)); exact Nat.le_of_ble_eq_true rfl) | ((with_reducible show _ < List.length (List.cons _ _)); exact Nat.le_of_ble_eq_true rfl) | with_reducible assumption | omega | (simp only [List.length_map, List.length_append, List.length_set, List.length_range, List.length_range', List.length_take, List.length_drop, List.length_cons, List.length_nil, List.length_zipIdx, List.length_zip, List.length_replicate]; omega) | (apply List.mem_range.mp; assumption) | (apply_assumption -exfalso -symm (transparency := .reducible); with_reducible assumption)))) | ((with_reducible apply c_ne (f := iN)); (focus (first | ((with_reducible show Enc.dep _ ≤ _); exact Nat.le_of_ble_eq_true rfl) | ((with_reducible show _ < List.length (List.set _ _ _)); exact Nat.le_of_ble_eq_true rfl) | ((with_reducible show _ < List.length (List.cons _ _)); exact Nat.le_of_ble_eq_true rfl) | with_reducible assumption | omega | (simp only [List.length_map, List.length_append, List.length_set, List.length_range, List.length_range', List.length_take, List.length_drop, List.length_cons, List.length_nil, List.length_zipIdx, List.length_zip, List.length_replicate]; omega) | (apply List.mem_range.mp; assumption) | (apply_assumption -exfalso -symm (transparency := .reducible); with_reducible assumption)))) | ((with_reducible apply c_ne (f := bN)); (focus (first | ((with_reducible show Enc.dep _ ≤ _); exact Nat.le_of_ble_eq_true rfl) | ((with_reducible show _ < List.length (List.set _ _ _)); exact Nat.le_of_ble_eq_true rfl) | ((with_reducible show _ < List.length (List.cons _ _)); exact Nat.le_of_ble_eq_true rfl) | with_reducible assumption | omega | (simp only [List.length_map, List.length_append, List.length_set, List.length_range, List.length_range', List.length_take, List.length_drop, List.length_cons, List.length_nil, List.length_zipIdx, List.length_zip, List.length_replicate]; omega) | (apply List.mem_range.mp; assumption) | (apply_assumption -exfalso -symm (transparency := .reducible); with_reducible assumption)))) | ((with_reducible apply c_ne (f := tD _)); (focus (first | ((with_reducible show Enc.dep _ ≤ _); exact Nat.le_of_ble_eq_true rfl) | ((with_reducible show _ < List.length (List.set _ _ _)); exact Nat.le_of_ble_eq_true rfl) | ((with_reducible show _ < List.length (List.cons _ _)); exact Nat.le_of_ble_eq_true rfl) | with_reducible assumption | omega | (simp only [List.length_map, List.length_append, List.length_set, List.length_range, List.length_range', List.length_take, List.length_drop, List.length_cons, List.length_nil, List.length_zipIdx, List.length_zip, List.length_replicate]; omega) | (apply List.mem_range.mp; assumption) | (apply_assumption -exfalso -symm (transparency := .reducible); with_reducible assumption)))) | ((with_reducible apply c_ne (f := lD _)); (focus (first | ((with_reducible show Enc.dep _ ≤ _); exact Nat.le_of_ble_eq_true rfl) | ((with_reducible show _ < List.length (List.set _ _ _)); exact Nat.le_of_ble_eq_true rfl) | ((with_reducible show _ < List.length (List.cons _ _)); exact Nat.le_of_ble_eq_true rfl) | with_reducible assumption | omega | (simp only [List.length_map, List.length_append, List.length_set, List.length_range, List.length_range', List.length_take, List.length_drop, List.length_cons, List.length_nil, List.length_zipIdx, List.length_zip, List.length_replicate]; omega) | (apply List.mem_range.mp; assumption) | (apply_assumption -exfalso -symm (transparency := .reducible); with_reducible assumption)))))
  | ((with_reducible show dIsN' _ _ _ = some _); first | (with_reducible exact c_isN))
  | ((with_reducible show dIsNotN' _ _ _ = some _); first | (with_reducible exact c_isNN))
  | ((with_reducible show dIn _ _ _ = some _); first | (with_reducible exact c_in_non) | (with_reducible exact c_in_p) | (with_reducible exact c_in_ii) | ((with_reducible apply c_in_t); (focus (first | ((with_reducible show Enc.dep _ ≤ _); exact Nat.le_of_ble_eq_true rfl) | ((with_reducible show _ < List.length (List.set _ _ _)); exact Nat.le_of_ble_eq_true rfl) | ((with_reducible show _ < List.length (List.cons _ _)); exact Nat.le_of_ble_eq_true rfl) | with_reducible assumption | omega | (simp only [List.length_map, List.length_append, List.length_set, List.length_range, List.length_range', List.length_take, List.length_drop, List.length_cons, List.length_nil, List.length_zipIdx, List.length_zip, List.length_replicate]; omega) | (apply List.mem_range.mp; assumption) | (apply_assumption -exfalso -symm (transparency := .reducible); with_reducible assumption)))) | ((with_reducible apply c_in_l); (focus (first | ((with_reducible show Enc.dep _ ≤ _); exact Nat.le_of_ble_eq_true rfl) | ((with_reducible show _ < List.length (List.set _ _ _)); exact Nat.le_of_ble_eq_true rfl) | ((with_reducible show _ < List.length (List.cons _ _)); exact Nat.le_of_ble_eq_true rfl) | with_reducible assumption | omega | (simp only [List.length_map, List.length_append, List.length_set, List.length_range, List.length_range', List.length_take, List.length_drop, List.length_cons, List.length_nil, List.length_zipIdx, List.length_zip, List.length_replicate]; omega) | (apply List.mem_range.mp; assumption) | (apply_assumption -exfalso -symm (transparency := .reducible); with_reducible assumption)))) | ((with_reducible apply in_loc); focus (first | exact at_last | rfl | assumption | (apply at_cext0; rfl) | (apply at_cext; rfl) | (apply at_ext0; rfl) | (apply at_ext; rfl) | (apply at_old; assumption) | (apply at_set; assumption) | (simp; done))))
  | ((with_reducible show dNotIn _ _ _ = some _); first | ((with_reducible apply c_notin)))
  | ((with_reducible show gLen _ _ = some _); first | (with_reducible exact v_len_t) | (with_reducible exact v_len_l) | ((with_reducible apply len_loc); focus (first | exact at_last | rfl | assumption | (apply at_cext0; rfl) | (apply at_cext; rfl) | (apply at_ext0; rfl) | (apply at_ext; rfl) | (apply at_old; assumption) | (apply at_set; assumption) | (simp; done))) | (with_reducible exact v_len_t0) | (with_reducible exact v_len_l0))
  | ((with_reducible show gTup _ _ = some _); first | (with_reducible exact v_tup_l) | (with_reducible exact v_tup_t) | ((with_reducible apply v_tup_loc); (focus (first | exact at_last | rfl | assumption | (apply at_cext0; rfl) | (apply at_cext; rfl) | (apply at_ext0; rfl) | (apply at_ext; rfl) | (apply at_old; assumption) | (apply at_set; assumption) | (simp; done)))))
  | ((with_reducible show gAll _ _ = some _); first | (with_reducible exact v_all))
  | ((with_reducible show gAny _ _ = some _); first | (with_reducible exact v_any))
  | ((with_reducible show gU uAbs _ _ = some _); first | (with_reducible exact v_abs_n) | (with_reducible exact v_abs_i))
  | ((with_reducible show gU uInt _ _ = some _); first | (with_reducible exact v_int_i) | (with_reducible exact v_int_b))
  | ((with_reducible show gSum _ _ = some _); first | (with_reducible exact v_sum))
  | ((with_reducible show gMax _ _ = some _); first | ((with_reducible apply max_loc); focus (first | exact at_last | rfl | assumption | (apply at_cext0; rfl) | (apply at_cext; rfl) | (apply at_ext0; rfl) | (apply at_ext; rfl) | (apply at_old; assumption) | (apply at_set; assumption) | (simp; done))) | ((with_reducible apply v_max); (focus (first | assumption | (apply_assumption -exfalso -symm (transparency := .reducible); with_reducible assumption)))) | ((with_reducible apply v_max_o); (focus (first | assumption | (apply_assumption -exfalso -symm (transparency := .reducible); with_reducible assumption))); (focus (first | assumption | (apply_assumption -exfalso -symm (transparency := .reducible); with_reducible assumption)))) | ((with_reducible apply v_max_m); (focus (first | assumption | (apply_assumption -exfalso -symm (transparency := .reducible); with_reducible assumption)))))
  | ((with_reducible show gMin _ _ = some _); first | ((with_reducible apply v_min); (focus (first | assumption | (apply_assumption -exfalso -symm (transparency := .reducible); with_reducible assumption)))) | ((with_reducible apply v_min_m); (focus (first | assumption | (apply_assumption -exfalso -symm (transparency := .reducible); with_reducible assumption)))))
  | ((with_reducible show ∀ _ ∈ _, _ = true → _); intro _ _ _)
  | ((with_reducible show ∀ _ ∈ _, _); intro _ _)
  | ((with_reducible show (_ : Option (R D)) = _); apply_assumption -exfalso -symm)
  | ((with_reducible show (_ : Option RS) = _); apply_assumption -exfalso -symm))
local macro_rules | `(tactic| nested_keys) => `(tactic| repeat' nested_key)
local macro_rules | `(tactic| walk_at "le") => `(tactic| (first | ((with_reducible show Enc.dep _ ≤ _); exact Nat.le_of_ble_eq_true rfl) | ((with_reducible show _ < List.length (List.set _ _ _)); exact Nat.le_of_ble_eq_true rfl) | ((with_reducible show _ < List.length (List.cons _ _)); exact Nat.le_of_ble_eq_true rfl) | with_reducible assumption | omega | (simp only [List.length_map, List.length_append, List.length_set, List.length_range, List.length_range', List.length_take, List.length_drop, List.length_cons, List.length_nil, List.length_zipIdx, List.length_zip, List.length_replicate]; omega) | (apply List.mem_range.mp; assumption) | (apply_assumption -exfalso -symm (transparency := .reducible); with_reducible assumption)))
local macro_rules | `(tactic| walk_at "low") => `(tactic| (first | exact fun _ => rfl | exact fun n => oD_low n _ | exact fun n => Enc.low (f := tD _) n _ | exact fun n => Enc.low (f := lD _) n _ | exact fun n => Enc.low (f := lD (oD dN)) n _ | exact fun n => belows_enc _ n _ | exact fun n => Enc.low (f := pD _ _) n _))
local macro_rules | `(tactic| walk_at "start") => `(tactic| (try simp only [Mi.start, List.map_cons, List.map_nil, List.length_cons, List.length_nil, Nat.reduceAdd, Nat.reduceSub, List.reduceReplicate, List.cons_append, List.nil_append, Nat.zero_add]))
local macro_rules | `(tactic| walk_at "def") => `(tactic| ((show scp _ _ = _); (apply def_same (hl := by (first | rfl | exact oD_loc _)) (hb := by (first | exact fun _ => rfl | exact fun n => oD_low n _ | exact fun n => Enc.low (f := tD _) n _ | exact fun n => Enc.low (f := lD _) n _ | exact fun n => Enc.low (f := lD (oD dN)) n _ | exact fun n => belows_enc _ n _ | exact fun n => Enc.low (f := pD _ _) n _)) (g := by assumption)); (apply run_rt); (try simp only [Mi.start, List.map_cons, List.map_nil, List.length_cons, List.length_nil, Nat.reduceAdd, Nat.reduceSub, List.reduceReplicate, List.cons_append, List.nil_append, Nat.zero_add])))
local macro_rules | `(tactic| walk_at "hand") => `(tactic| ((show scp _ _ = _); (apply def_hand (hl := by (first | rfl | exact oD_loc _)) (hb := by (first | exact fun _ => rfl | exact fun n => oD_low n _ | exact fun n => Enc.low (f := tD _) n _ | exact fun n => Enc.low (f := lD _) n _ | exact fun n => Enc.low (f := lD (oD dN)) n _ | exact fun n => belows_enc _ n _ | exact fun n => Enc.low (f := pD _ _) n _)) (g := by assumption)); (apply run_rt); (try simp only [Mi.start, List.map_cons, List.map_nil, List.length_cons, List.length_nil, Nat.reduceAdd, Nat.reduceSub, List.reduceReplicate, List.cons_append, List.nil_append, Nat.zero_add])))
local macro_rules | `(tactic| walk_at "defx") => `(tactic| ((show scp _ _ = _); (apply def_same (hl := by (first | rfl | exact oD_loc _)) (hb := by (first | exact fun _ => rfl | exact fun n => oD_low n _ | exact fun n => Enc.low (f := tD _) n _ | exact fun n => Enc.low (f := lD _) n _ | exact fun n => Enc.low (f := lD (oD dN)) n _ | exact fun n => belows_enc _ n _ | exact fun n => Enc.low (f := pD _ _) n _)) (g := by assumption)); (apply run_nx); (try simp only [Mi.start, List.map_cons, List.map_nil, List.length_cons, List.length_nil, Nat.reduceAdd, Nat.reduceSub, List.reduceReplicate, List.cons_append, List.nil_append, Nat.zero_add])))
section
open Ww
variable {st : Store}
theorem is_integer_ok (i : Int) (g : Good st) : f_is_integer [.int i] st = some (.ok (.bl true) st) := by
  walk_at "def"
  nested_keys; rfl
theorem is_between_ok (i j k : Int) (g : Good st) : f_is_between [.int i, .int j, .int k] st = some (.ok (.bl (decide (j ≤ i) && decide (i ≤ k))) st) := by
  have h := is_integer_ok i g
  walk_at "def"
  nested_keys; rfl
theorem is_index_ok (i k : Nat) (hk : 0 < k) (g : Good st) : f_is_index [dN i, dN k] st = some (.ok (.bl (decide (i < k))) st) := by
  have h := fun a b c => is_between_ok a b c g
  walk_at "def"
  nested_keys
  have e : decide (i < k) = decide (i ≤ k - 1) := by apply decide_eq_decide.mpr; omega
  rw [e]; simp
theorem asc_ok (xs : List Nat) (hl : xs.length ≤ 1000) (g : Good st) : f_are_ascending [tD dN xs] st = some (.ok (.bl (asc xs)) st) := by
  walk_at "def"
  nested_keys; rfl
theorem is_pocket_ok (xs : List Nat) (i k : Nat) (hk : 0 < k) (hl : ∀ x ∈ xs, x < k) (hn : xs.length ≤ 1000) (g : Good st) : f_is_pocket [tD dN xs, dN i, dN k] st = some (.ok (.bl (asc xs && decide (i ∉ xs))) st) := by
  have h1 := fun (x : Nat) => is_index_ok x k hk g
  have h2 := asc_ok xs hn g
  have h3 : (xs.all fun x => decide (x < k)) = true := by simpa using hl
  walk_at "def"
  nested_keys
  simp
theorem is_web_ok (w : List (List Nat)) (hw : Web w) (g : Good st) : f_is_web [tD (tD dN) w] st = some (.ok (.bl true) st) := by
  obtain ⟨lo, hi, pk, own⟩ := hw
  have h1 := fun (p : List Nat × Nat) (hp : p ∈ w.zipIdx) => is_pocket_ok p.1 p.2 w.length (by omega) (pk p.1 (by simpa using List.mem_zipIdx' hp |>.2 ▸ List.getElem_mem _)).2.2 (by have := (pk p.1 (by simpa using List.mem_zipIdx' hp |>.2 ▸ List.getElem_mem _)).2.1; omega) g
  walk_at "def"
  nested_keys
  have e : (w.zipIdx.all fun x => asc x.1 && decide (x.2 ∉ x.1)) = true := by
    rw [List.all_eq_true]
    rintro ⟨p, i⟩ hx
    have hi := List.mem_zipIdx_iff_getElem?.mp hx
    have h1 := pk p (List.mem_of_getElem? hi)
    have h2 := own i p hi
    simp [h1.1, h2]
  rw [e]
theorem check_web_ok (w : List (List Nat)) (hw : Web w) (g : Good st) : f_check_web [tD (tD dN) w] st = some (.ok .non st) := by
  have h := is_web_ok w hw g
  walk_at "defx"
  nested_keys; rfl
theorem wh_spread (w : List (List Nat)) (hw : Web w) (hd : ∀ i, (nbr w i).Nodup) (e0 e1 : Option D) (h0 : e0 = some (tD (tD dN) w)) : ∀ (n a : Nat) (fd r : List Nat) (e4 : Option D), spread (nbr w) n a fd = some r → fd.Nodup → (∀ x ∈ fd, x < w.length) → a ≤ fd.length →
    whN (tCmp dLt (eVar 3) (eU' gLen (eVar 2))) (sSeq (sExt (eVar 2) (eL (lComp (iOf (eIx (eVar 0) (eIx (eVar 2) (eVar 3)))) (gVar 4) (tCmp dNotIn (eVar 4) (eVar 2)) (eVar 4) [4]))) (sAug 3 oAddI (eC (dN 1)))) n [e0, e1, some (.loc st.length), some (dN a), none] (st ++ [O.lst (fd.map dN)]) =
      some (.nx [e0, e1, some (.loc st.length), some (dN r.length), none] (st ++ [O.lst (r.map dN)]))
  | 0, _, _, _, _, h, _, _, _ => nomatch h
  | n + 1, a, fd, r, e4, h, h1, h2, h3 => by
    subst h0
    have hz : fd.length ≤ 9 := Nat.le_trans (nodup_le (ys := List.range w.length) h1 fun x hx => List.mem_range.mpr (h2 x hx)) (by rw [List.length_range]; exact hw.hi)
    have ht : tCmp dLt (eVar 3) (eU' gLen (eVar 2)) [some (tD (tD dN) w), e1, some (.loc st.length), some (dN a), none] (st ++ [O.lst (fd.map dN)]) = some (.ok (decide (a < fd.length)) (st ++ [O.lst (fd.map dN)])) := by nested_keys
    unfold spread at h
    by_cases ha : a < fd.length
    · rw [if_pos ha] at h
      have q1 : fd.getD a default < w.length := h2 _ (getD_in ha)
      have q2 := hw.pl (fd.getD a default)
      have q3 : ((w.getD (fd.getD a default) default).filter fun x => !decide (x ∈ fd)).length ≤ 9 := Nat.le_trans (List.length_filter_le ..) q2
      refine wh_go ht (decide_eq_true ha) (σ1 := [some (tD (tD dN) w), e1, some (.loc st.length), some (dN (a + 1)), none]) (s2 := st ++ [O.lst ((fd ++ (w.getD (fd.getD a default) default).filter fun x => !decide (x ∈ fd)).map dN)]) ?_ ?_
      · apply sq_nx
        · refine st_ext (l := st.length) (ds := fd.map dN) (xs := ((w.getD (fd.getD a default) default).filter fun x => !decide (x ∈ fd)).map dN) (s2 := st ++ [O.lst (fd.map dN)]) (d := .lst (((w.getD (fd.getD a default) default).filter fun x => !decide (x ∈ fd)).map dN)) (ev_var rfl) at_last ?_ rfl at_last ?_ rfl
          · nested_keys
          · rw [List.length_map, List.length_map]; omega
        · rw [show st.length = st.length + 0 from rfl, set_ext, List.map_append]
          exact st_aug rfl ev_c rfl
      · have e : (fun x => !decide (x ∈ fd)) = fun x => decide (x ∉ fd) := funext fun x => by simp
        rw [e]
        refine wh_spread w hw hd _ e1 rfl n (a + 1) _ r e4 h (List.nodup_append.mpr ⟨h1, (hd _).sublist List.filter_sublist, fun x hx y hy e => ?_⟩) (fun x hx => ?_) ?_
        · subst e
          exact (of_decide_eq_true (List.mem_filter.mp hy).2) hx
        · rcases List.mem_append.mp hx with q | q
          · exact h2 x q
          · exact hw.lt (List.mem_filter.mp q).1
        · rw [List.length_append]; omega
    · rw [if_neg ha] at h
      cases h
      have e : a = fd.length := by omega
      rw [← e]
      exact wh_end ht (decide_eq_false ha)
theorem found_from_ok (w : List (List Nat)) (hw : Web w) (p : Nat) (hp : p < w.length) (r : List Nat) (hr : spread (nbr w) 100 0 [p] = some r) (g : Good st) : f_found_from [tD (tD dN) w, dN p] st = some (.ok (lD dN r) st) := by
  have hwh := wh_spread (st := st) w hw hw.nd (some (tD (tD dN) w)) (some (dN p)) rfl 100 0 [p] r none hr (by simp) (by simpa using hp) (Nat.zero_le _)
  show scp _ _ = _
  refine def_new (k := 0) (ext := [O.lst (r.map dN)]) (d' := .loc st.length) ?_ rfl rfl rfl (fun m => belows_enc dN m _) g
  apply run_rt
  walk_at "start"
  apply sq_nx
  · nested_keys
  apply sq_nx
  · nested_keys
  refine sq_nx (st_while hwh) ?_
  nested_keys
theorem raw_finds_ok (w : List (List Nat)) (hw : Web w) (g : Good st) : f_raw_finds [tD (tD dN) w] st = some (.ok (tD (tD dN) (finds w)) st) := by
  have h1 := fun p hp => found_from_ok w hw p hp _ (reach_some hw hp) g
  have h2 : ∀ p, p < w.length → (reach w p).length ≤ 9 := fun p hp => reach_len hw hp
  have hl := hw.hi
  have h3 : ∀ p ∈ List.range w.length, (reach w p).length ≤ 1000000 := fun p hp => Nat.le_trans (h2 p (List.mem_range.mp hp)) (by decide)
  walk_at "def"
  nested_keys
  show D.tup _ = D.tup (List.map (tD dN) (List.map _ _))
  rw [List.map_map]
  rfl
theorem finds_ok (w : List (List Nat)) (hw : Web w) (g : Good st) : f_finds [tD (tD dN) w] st = some (.ok (tD (tD dN) (finds w)) st) := by
  have h1 := check_web_ok w hw g
  have h2 := raw_finds_ok w hw g
  show scp _ _ = _
  refine def_same (d' := tD (tD dN) (finds w)) ?_ rfl rfl (fun k => Enc.low (f := tD (tD dN)) k _) g
  apply run_rt
  walk_at "start"
  apply sq_nx
  · nested_keys
  nested_keys
end
section
open Ww
variable {st : Store}
abbrev webD : List (List Nat) → D := tD (tD dN)
/-! ### knots -/
def knotsW (w : List (List Nat)) : List (List Nat) := sortT (knots0 (finds w) (List.range w.length))
theorem knots_kn (w : List (List Nat)) : Kn w.length (finds w) (knotsW w) := kn_perm (sortT_perm _)
theorem cls_ne {w : List (List Nat)} (hw : Web w) {p : Nat} (hp : p < w.length) : cls (finds w) p ≠ [] := by
  intro e
  have := self_cls (finds_pre hw) hp
  rw [e] at this
  exact nomatch this
theorem knots0_le (fd : List (List Nat)) : ∀ ps : List Nat, ∀ acc : List (List Nat), (ps.foldl (fun acc p => insN acc (cls fd p)) acc).length ≤ acc.length + ps.length
  | [], acc => Nat.le_refl _
  | p :: ps, acc => by
    refine Nat.le_trans (knots0_le fd ps _) ?_
    have : (insN acc (cls fd p)).length ≤ acc.length + 1 := by
      unfold insN
      split
      · omega
      · rw [List.length_append]; exact Nat.le_refl _
    rw [List.length_cons]
    show (insN acc (cls fd p)).length + ps.length ≤ acc.length + (ps.length + 1)
    omega
theorem knots0_len (fd : List (List Nat)) (ps : List Nat) : (knots0 fd ps).length ≤ ps.length := by
  have := knots0_le fd ps []
  rwa [List.length_nil, Nat.zero_add] at this
theorem knots_len {w : List (List Nat)} (hw : Web w) : (knotsW w).length ≤ 9 := by
  unfold knotsW
  rw [(sortT_perm _).length_eq]
  have := knots0_len (finds w) (List.range w.length)
  rw [List.length_range] at this
  have := hw.hi
  omega
theorem raw_knots_ok (w : List (List Nat)) (hw : Web w) (g : Good st) : f_raw_knots [webD w] st = some (.ok (webD (knotsW w)) st) := by
  have hh := hw.hi
  have hf := raw_finds_ok (st := st) w hw g
  have hl : (finds w).length = w.length := finds_len w
  have hpk : ∀ i, (nbr (finds w) i).length ≤ 9 := fun i => by
    by_cases hi : i < w.length
    · rw [finds_nbr hi, sortN_len]; exact reach_len hw hi
    · have : nbr (finds w) i = [] := by
        show (finds w).getD i default = _
        rw [List.getD_eq_getElem?_getD, List.getElem?_eq_none (by omega)]; rfl
      rw [this]; decide
  have hlt : ∀ i x, x ∈ nbr (finds w) i → x < (finds w).length := fun i x h => by rw [hl]; exact ((finds_pre hw).lt _ _ h).2
  obtain ⟨σ', s', e, a3, rfl, rfl⟩ := for_inv (G := gVar 3) (b := sPutD (eVar 2) (eU' Mi.gTup (eL (lComp (iOf (eIx (eVar 1) (eVar 3))) (gVar 4) (tCmp dIn (eVar 3) (eIx (eVar 1) (eVar 4))) (eVar 4) [4]))) (eC (.bl true))) dN
    (fun pre σ s => ∃ a3, σ = [some (webD w), some (webD (finds w)), some (.loc st.length), a3, none] ∧ s = st ++ [dctS (tD dN) (knots0 (finds w) pre)]) (List.range w.length) (σ := [some (webD w), some (webD (finds w)), some (.loc st.length), none, none]) (st := st ++ [dctS (tD dN) []]) ⟨none, rfl, rfl⟩ (by
    rintro pre a post σ s hx ⟨a3, rfl, rfl⟩
    have ha : a < (finds w).length := by rw [hl]; exact List.mem_range.mp (by rw [← hx]; simp)
    have hpre : pre.length ≤ 9 := by
      have := congrArg List.length hx
      rw [List.length_append, List.length_range] at this
      omega
    have hk := knots0_len (finds w) pre
    apply step_nx rfl
    · refine st_putS (f := tD dN) (l := st.length) (xs := knots0 (finds w) pre) (x := cls (finds w) a) ev_c (ev_var rfl) ?_ at_last (by omega) rfl
      exact ev_u (ev_l (ev_comp (xs := nbr (finds w) a) (f := dN) (p := fun y => decide (a ∈ nbr (finds w) y)) (q := dN) (sg := fun y => [some (webD w), some (webD (finds w)), some (.loc st.length), some (dN a), some (dN y)]) (ev_iof (ev_ix (ev_var rfl) (ev_var rfl) (v_ix_t ha)) rfl) (fun _ _ => rfl) (fun y hy => ev_cmp (ev_var rfl) (ev_ix (ev_var rfl) (ev_var rfl) (v_ix_t (hlt a y hy))) (c_in_t (f := dN) (by decide))) (fun _ _ _ => ev_var rfl) (Nat.le_trans (hpk a) (by decide)))) v_tup_l
    · refine ⟨_, rfl, ?_⟩
      rw [show st.length = st.length + 0 from rfl, set_ext, knots0_snoc]
      rfl)
  show scp _ _ = _
  refine def_own (d' := webD (knotsW w)) (ext := [dctS (tD dN) (knots0 (finds w) (List.range w.length))]) ?_ rfl rfl (fun k => Enc.low (f := tD (tD dN)) k _) g
  apply run_rt
  refine sq_nx (st_set (σ := [some (webD w), none, none, none, none]) (n := 1) (ev_call (ev_cons (ev_var rfl) ev_nil) hf) (Nat.le_of_ble_eq_true rfl)) ?_
  refine sq_nx (σ1 := [some (webD w), some (webD (finds w)), some (.loc st.length), none, none]) (s1 := st ++ [dctS (tD dN) []]) ((st_set (σ := [some (webD w), some (webD (finds w)), none, none, none]) (n := 2) (ev_dct0 push_base) (Nat.le_of_ble_eq_true rfl)).trans rfl) ?_
  refine sq_nx (st_for (ev_irange (ev_u (ev_var rfl) v_len_t) (by omega)) e) ?_
  have hs : sortD (st ++ [dctS (tD dN) (knots0 (finds w) (List.range w.length))]) ((knots0 (finds w) (List.range w.length)).map (tD dN)) = some ((knotsW w).map (tD dN)) := v_sortT (fun x hx => by
    obtain ⟨p, hp, rfl⟩ := ((knots0_facts w.length).2 x).mp hx
    exact cls_ne hw hp) (by have := knots0_len (finds w) (List.range w.length); rw [List.length_range] at this; omega)
  exact st_ret (ev_u (ev_l (ev_lsortk (ev_var rfl) at_last hs)) v_tup_l)

theorem knots_ok (w : List (List Nat)) (hw : Web w) (g : Good st) : f_knots [webD w] st = some (.ok (webD (knotsW w)) st) := by
  have h1 := check_web_ok (st := st) w hw g
  have h2 := raw_knots_ok (st := st) w hw g
  show scp _ _ = _
  refine def_same (d' := webD (knotsW w)) (run_rt ?_) rfl rfl (fun k => Enc.low (f := tD (tD dN)) k _) g
  exact sq_nx (st_expr (σ := [some (webD w)]) (ev_call (ev_cons (ev_var rfl) ev_nil) h1)) (st_ret (ev_call (ev_cons (ev_var rfl) ev_nil) h2))
/-! ### pieces -/
theorem tied_ok (w : List (List Nat)) (p y : Nat) (hp : p < w.length) (hy : y < w.length) (g : Good st) : f_tied [webD w, dN p, dN y] st = some (.ok (.bl (decide (y ∈ nbr w p) || decide (p ∈ nbr w y))) st) := by
  show scp _ _ = _
  refine def_same (d' := .bl (decide (y ∈ nbr w p) || decide (p ∈ nbr w y))) (run_rt (st_ret ?_)) rfl rfl (fun _ => rfl) g
  exact ev_eor (ev_b (ev_cmp (ev_var rfl) (ev_ix (ev_var rfl) (ev_var rfl) (v_ix_t hp)) (c_in_t (f := dN) (by decide)))) (eOrK_b fun _ => ev_b (ev_cmp (ev_var rfl) (ev_ix (ev_var rfl) (ev_var rfl) (v_ix_t hy)) (c_in_t (f := dN) (by decide))))
theorem both_ways_ok (w : List (List Nat)) (hw : Web w) (g : Good st) : f_both_ways [webD w] st = some (.ok (webD (both w)) st) := by
  have hh := hw.hi
  have ht := fun p y (hp : p < w.length) (hy : y < w.length) => tied_ok (st := st) w p y hp hy g
  show scp _ _ = _
  refine def_same (d' := webD (both w)) (run_rt ?_) rfl rfl (fun k => Enc.low (f := tD (tD dN)) k _) g
  refine sq_nx (σ1 := [some (webD w), some (.lst ((List.range w.length).map dN)), none, none]) (s1 := st) ((st_set (σ := [some (webD w), none, none, none]) (n := 1) (ev_l (ev_lrange (ev_u (ev_var rfl) v_len_t) (by omega))) (Nat.le_of_ble_eq_true rfl)).trans rfl) ?_
  have hrow : ∀ u ∈ List.range w.length, lComp (iOf (eVar 1)) (gVar 2) (tE (eCall f_tied (eCons (eVar 0) (eCons (eVar 3) (eCons (eVar 2) eNil))))) (eVar 2) [2] [some (webD w), some (.lst ((List.range w.length).map dN)), none, some (dN u)] st = some (.ok (((List.range w.length).filter fun y => decide (y ∈ nbr w u) || decide (u ∈ nbr w y)).map dN) st) := fun u hu =>
    ev_comp (xs := List.range w.length) (f := dN) (p := fun y => decide (y ∈ nbr w u) || decide (u ∈ nbr w y)) (q := dN) (sg := fun y => [some (webD w), some (.lst ((List.range w.length).map dN)), some (dN y), some (dN u)]) (ev_iof (ev_var rfl) rfl) (fun _ _ => rfl) (fun y hy => ev_e (ev_call (ev_cons (ev_var rfl) (ev_cons (ev_var rfl) (ev_cons (ev_var rfl) ev_nil))) (ht u y (List.mem_range.mp hu) (List.mem_range.mp hy)))) (fun _ _ _ => ev_var rfl) (by rw [List.length_range]; omega)
  refine st_ret (ev_u (ev_l (ev_comp_all (xs := List.range w.length) (f := dN) (q := fun u => tD dN ((List.range w.length).filter fun y => decide (y ∈ nbr w u) || decide (u ∈ nbr w y))) (sg := fun u => [some (webD w), some (.lst ((List.range w.length).map dN)), none, some (dN u)]) (ev_iof (ev_var rfl) rfl) (fun _ _ => rfl) (fun u hu => ev_u (ev_l (hrow u hu)) v_tup_l) (by rw [List.length_range]; omega))) (v_tup_l.trans ?_))
  unfold both rows
  show some (D.tup _) = some (D.tup (List.map (tD dN) (List.map _ _)))
  rw [List.map_map]
  rfl
/-- a dict of the items of a list of tuples -/
theorem kPut_set {α : Type} [DecidableEq α] {f : α → D} [KeyEnc f] (xs : List α) (x : α) : kPut (xs.map fun x => (f x, D.bl true)) (f x) (.bl true) = (insN xs x).map fun x => (f x, D.bl true) := by
  unfold kPut
  rw [any_key]
  unfold insN
  by_cases h : x ∈ xs
  · rw [if_pos (decide_eq_true h), if_pos h, List.map_map]
    apply List.map_congr_left
    intro z _
    show (if kEq (f z) (f x) then _ else _) = _
    split <;> rfl
  · rw [if_neg (by simpa using h), if_neg h]
    simp
theorem dcSet_go {σ : Mi.Env} {k v : E} {G : Mi.G} (sg : List Nat → Mi.Env) (s : Store) : ∀ (ys acc : List (List Nat)), (∀ y ∈ ys, G (tD dN y) σ = some (sg y)) → (∀ y ∈ ys, k (sg y) s = some (.ok (tD dN y) s)) → (∀ y ∈ ys, v (sg y) s = some (.ok (.bl true) s)) → acc.length + ys.length ≤ 1000000 →
    dcFix G tYes k v σ (ys.map (tD dN)) (acc.map fun x => (tD dN x, D.bl true)) s = some (.ok ((ys.foldl insN acc).map fun x => (tD dN x, D.bl true)) s)
  | [], acc, _, _, _, _ => rfl
  | y :: ys, acc, h1, h2, h3, h4 => by
    rw [List.length_cons] at h4
    have hl : (insN acc y).length ≤ acc.length + 1 := by
      unfold insN
      split
      · omega
      · rw [List.length_append]; exact Nat.le_refl _
    have ih := dcSet_go (k := k) (v := v) (G := G) (σ := σ) sg s ys (insN acc y) (fun z hz => h1 z (.tail _ hz)) (fun z hz => h2 z (.tail _ hz)) (fun z hz => h3 z (.tail _ hz)) (by omega)
    rw [List.map_cons]
    unfold dcFix
    rw [h1 y (.head _)]
    dsimp only
    rw [bndN_ok (show tYes (sg y) s = some (.ok true s) from rfl), if_pos rfl, bndN_ok (h2 y (.head _)), bndN_ok (h3 y (.head _))]
    have hk : kOk true (tD dN y) = true := by
      show (tupKey (tD dN y)).isSome = true
      rw [KeyEnc.of (f := tD dN) y]; rfl
    rw [hk, okLt_of _ (by rw [List.length_map]; omega)]
    rw [if_pos (by rfl), kPut_set (f := tD dN)]
    exact ih
theorem raw_pieces_ok (w : List (List Nat)) (hw : Web w) (g : Good st) : f_raw_pieces [webD w] st = some (.ok (webD (sortT (pieces0 w))) st) := by
  have hh := hw.hi
  have h1 := both_ways_ok (st := st) w hw g
  have hb := both_web hw
  have h2 := raw_finds_ok (st := st) (both w) hb g
  have hlen : (finds (both w)).length = w.length := by rw [finds_len, both_len]
  have hp0 := insN_fold_len (finds (both w)) []
  rw [hlen, List.length_nil] at hp0
  have hgo := dcSet_go (k := eVar 1) (v := eC (.bl true)) (G := gVar 1) (σ := [some (webD w), none]) (fun y => [some (webD w), some (tD dN y)]) st (finds (both w)) [] (fun _ _ => rfl) (fun _ _ => ev_var rfl) (fun _ _ => ev_c) (by rw [hlen, List.length_nil]; omega)
  have hd : eDctC (iOf (eCall f_raw_finds (eCons (eCall f_both_ways (eCons (eVar 0) eNil)) eNil))) (gVar 1) tYes (eVar 1) (eC (.bl true)) [1] [some (webD w), none] st = some (.ok (.loc st.length) (st ++ [dctS (tD dN) (pieces0 w)])) := by
    unfold eDctC
    rw [bnd_ok (ev_iof (ds := (finds (both w)).map (tD dN)) (ev_call (ev_cons (ev_call (ev_cons (ev_var rfl) ev_nil) h1) ev_nil) h2) rfl)]
    dsimp only
    rw [bndN_ok (show dcFix (gVar 1) tYes (eVar 1) (eC (.bl true)) (Mi.wipe [some (webD w), none] [1]) ((finds (both w)).map (tD dN)) [] st = _ from hgo)]
    unfold dctS pieces0
    rw [List.isEmpty_map]
  show scp _ _ = _
  refine def_own (d' := webD (sortT (pieces0 w))) (ext := [dctS (tD dN) (pieces0 w)]) (run_rt (st_ret ?_)) rfl rfl (fun k => Enc.low (f := tD (tD dN)) k _) g
  have hs : sortD (st ++ [dctS (tD dN) (pieces0 w)]) ((pieces0 w).map (tD dN)) = some ((sortT (pieces0 w)).map (tD dN)) := v_sortT (fun x hx e => by
    obtain ⟨p, hp, rfl⟩ := ((pieces0_lots w).mem x).mp hx
    have := pc_self hw hp
    rw [e] at this
    exact nomatch this) (by unfold pieces0; omega)
  exact ev_u (ev_l (ev_lsortk hd at_last hs)) v_tup_l
def piecesW (w : List (List Nat)) : List (List Nat) := sortT (pieces0 w)
theorem pieces_lots (w : List (List Nat)) : Lots w.length (pc w) (piecesW w) := (pieces0_lots w).perm (sortT_perm _)
theorem pieces_ok (w : List (List Nat)) (hw : Web w) (g : Good st) : f_pieces [webD w] st = some (.ok (webD (piecesW w)) st) := by
  have h1 := check_web_ok (st := st) w hw g
  have h2 := raw_pieces_ok (st := st) w hw g
  show scp _ _ = _
  refine def_same (d' := webD (piecesW w)) (run_rt ?_) rfl rfl (fun k => Enc.low (f := tD (tD dN)) k _) g
  exact sq_nx (st_expr (σ := [some (webD w)]) (ev_call (ev_cons (ev_var rfl) ev_nil) h1)) (st_ret (ev_call (ev_cons (ev_var rfl) ev_nil) h2))
end
section
variable {st : Store}
/-! ### the bag -/
structure Bag where
  sd : Nat
  turn : Nat
  gr : List Nat
  al : Option Nat
def gO (b : Bag) : O := .lst (b.gr.map dN)
def bO (b : Bag) : O := .lst [dN b.sd, dN b.turn, .loc 0, oD dN b.al]
abbrev B2 (b : Bag) (st : Store) : Store := gO b :: bO b :: st
theorem oD_low' (n : Nat) (a : Option Nat) : below n (oD dN a) = true := by cases a <;> rfl
theorem Good.bag {b : Bag} (g : Good st) : Good (B2 b st) := by
  unfold Good okSt
  rw [List.all_cons, List.all_cons, Bool.and_eq_true, Bool.and_eq_true]
  refine ⟨belows_enc dN _ b.gr, ?_, List.all_eq_true.mpr fun x hx => ?_⟩
  · have e0 : below (B2 b st).length (.loc 0) = true := by unfold below; simp
    show (true && (true && (below (B2 b st).length (.loc 0) && (below (B2 b st).length (oD dN b.al) && true)))) = true
    rw [e0, oD_low']; rfl
  · have := List.all_eq_true.mp g x hx
    exact belowO_mono (Nat.le_trans (Nat.le_succ _) (Nat.le_succ _)) this
theorem def_bag {m : M D} {d d' : D} {b b' : Bag} {s' : Store} (hm : m (B2 b st) = some (.ok d' s')) (e : d' = d) (e2 : s' = B2 b' st) (hl : isLoc d = false) (hb : ∀ n, below n d = true) (g : Good st) : scp m (B2 b st) = some (.ok d (B2 b' st)) := by
  subst e e2
  exact scp_keep hm hl (by simp) (hb _) (Good.bag g)
theorem def_bagO {m : M D} {d d' : D} {b b' : Bag} {s' ext : Store} (hm : m (B2 b st) = some (.ok d' s')) (e : d' = d) (e2 : s' = B2 b' (st ++ ext)) (hl : isLoc d = false) (hb : ∀ n, below n d = true) (g : Good st) : scp m (B2 b st) = some (.ok d (B2 b' st)) := by
  subst e e2
  unfold scp
  rw [hm]
  have e1 : ((B2 b' (st ++ ext)).take (B2 b st).length) = B2 b' st := by simp
  have e2 : thaw (B2 b st).length (B2 b' (st ++ ext)) d' = d' := by cases d' <;> first | rfl | cases hl
  dsimp only
  rw [e1, e2, hb]
  have e3 : okSt (B2 b st).length (B2 b' st) = true := (Good.bag (b := b') g)
  rw [e3]; rfl
theorem at_bag {b : Bag} {o : O} : (B2 b (st ++ [o]))[st.length + 2]? = some o := by
  show (st ++ [o])[st.length]? = some o
  exact at_last
theorem set_bag {b : Bag} {o o' : O} : (B2 b (st ++ [o])).set (st.length + 2) o' = B2 b (st ++ [o']) := by
  show gO b :: bO b :: ((st ++ [o]).set st.length o') = _
  rw [set_ext0]
  rfl
def mx1 (s : Nat) : Nat := s * 48271 % 2147483647
def mx2 (a : Nat) : Nat := a * (a / 1009 + 69621) % 2147483647
def mx3 (a : Nat) : Nat := a * (a / 2003 + 40692) % 2147483399
def mixB (b : Bag) : Nat := mx3 (mx2 (mx1 (b.sd + 7919 * (b.turn + 1)))) / 16
def drwB (b : Bag) (m : Nat) : Nat × Bag := match b.al with
  | some a => (a % m, b)
  | none => match b.gr with
    | [] => (mixB b % m, ⟨b.sd, b.turn + 1, [], none⟩)
    | x :: xs => (x % m, ⟨b.sd, b.turn + 1, if x / m = 0 then xs else x / m :: xs, none⟩)
theorem drwB_lt (b : Bag) {m : Nat} (hm : 0 < m) : (drwB b m).1 < m := by
  unfold drwB
  split
  · exact Nat.mod_lt _ hm
  · split <;> exact Nat.mod_lt _ hm
@[reducible] def pickTail : S := (sSeq (sSet 4 (eBin oMod (eU' (gU uInt) (eBin oMul (eBin oAdd (eIx (eVar 0) (eC (dN 0))) (eBin oMul (eC (dN 7919)) (eIx (eVar 0) (eC (dN 1))))) (eC (dN 48271)))) (eC (dN 2147483647))))
      (sSeq (sSet 4 (eBin oMod (eU' (gU uInt) (eBin oMul (eVar 4) (eBin oAdd (eBin oDiv (eVar 4) (eC (dN 1009))) (eC (dN 69621))))) (eC (dN 2147483647))))
      (sSeq (sSet 4 (eBin oMod (eU' (gU uInt) (eBin oMul (eVar 4) (eBin oAdd (eBin oDiv (eVar 4) (eC (dN 2003))) (eC (dN 40692))))) (eC (dN 2147483399))))
      (sRet (eBin oMod (eU' (gU uInt) (eBin oDiv (eVar 4) (eC (dN 16)))) (eVar 1))))))
theorem tail_ok (sd turn : Nat) (gr : List Nat) (al : Option Nat) (m : Nat) (hm : 0 < m) (e3 e4 : Option D) : pickTail [some (.loc 1), some (dN m), some (.loc 0), e3, e4] (B2 ⟨sd, turn + 1, gr, al⟩ st) = some (.rt (dN (mx3 (mx2 (mx1 (sd + 7919 * (turn + 1)))) / 16 % m)) (B2 ⟨sd, turn + 1, gr, al⟩ st)) := by
  let s := B2 ⟨sd, turn + 1, gr, al⟩ st
  have at1 : s[1]? = some (.lst [dN sd, dN (turn + 1), .loc 0, oD dN al]) := rfl
  have i0 : ∀ (a b c d : Option D), eIx (eVar 0) (eC (dN 0)) [some (.loc 1), a, b, c, d] s = some (.ok (dN sd) s) := fun a b c d => ev_ix (ev_var rfl) ev_c (ix_loc at1 rfl)
  have i1 : ∀ (a b c d : Option D), eIx (eVar 0) (eC (dN 1)) [some (.loc 1), a, b, c, d] s = some (.ok (dN (turn + 1)) s) := fun a b c d => ev_ix (ev_var rfl) ev_c (ix_loc at1 rfl)
  have sA : sSet 4 (eBin oMod (eU' (gU uInt) (eBin oMul (eBin oAdd (eIx (eVar 0) (eC (dN 0))) (eBin oMul (eC (dN 7919)) (eIx (eVar 0) (eC (dN 1))))) (eC (dN 48271)))) (eC (dN 2147483647))) [some (.loc 1), some (dN m), some (.loc 0), e3, e4] s = some (.nx [some (.loc 1), some (dN m), some (.loc 0), e3, some (dN (mx1 (sd + 7919 * (turn + 1))))] s) :=
    (st_set (n := 4) (ev_bin (ev_u (ev_bin (ev_bin (i0 _ _ _ _) (ev_bin ev_c (i1 _ _ _ _) (o_mul_ln (by decide))) o_add_nn) ev_c (o_mul_nn (by decide))) v_int_i) ev_c (o_mod_nn (by decide))) (Nat.le_of_ble_eq_true rfl)).trans rfl
  have sB : ∀ x, x < 2147483647 → sSet 4 (eBin oMod (eU' (gU uInt) (eBin oMul (eVar 4) (eBin oAdd (eBin oDiv (eVar 4) (eC (dN 1009))) (eC (dN 69621))))) (eC (dN 2147483647))) [some (.loc 1), some (dN m), some (.loc 0), e3, some (dN x)] s = some (.nx [some (.loc 1), some (dN m), some (.loc 0), e3, some (dN (mx2 x))] s) := fun x hx =>
    (st_set (n := 4) (ev_bin (ev_u (ev_bin (ev_var rfl) (ev_bin (ev_bin (ev_var rfl) ev_c (o_div_nn (by decide) (by decide))) ev_c o_add_nn) (o_mul_nl (by omega))) v_int_i) ev_c (o_mod_nn (by decide))) (Nat.le_of_ble_eq_true rfl)).trans rfl
  have sC : ∀ x, x < 2147483647 → sSet 4 (eBin oMod (eU' (gU uInt) (eBin oMul (eVar 4) (eBin oAdd (eBin oDiv (eVar 4) (eC (dN 2003))) (eC (dN 40692))))) (eC (dN 2147483399))) [some (.loc 1), some (dN m), some (.loc 0), e3, some (dN x)] s = some (.nx [some (.loc 1), some (dN m), some (.loc 0), e3, some (dN (mx3 x))] s) := fun x hx =>
    (st_set (n := 4) (ev_bin (ev_u (ev_bin (ev_var rfl) (ev_bin (ev_bin (ev_var rfl) ev_c (o_div_nn (by decide) (by decide))) ev_c o_add_nn) (o_mul_nl (by omega))) v_int_i) ev_c (o_mod_nn (by decide))) (Nat.le_of_ble_eq_true rfl)).trans rfl
  have sR : ∀ z, sRet (eBin oMod (eU' (gU uInt) (eBin oDiv (eVar 4) (eC (dN 16)))) (eVar 1)) [some (.loc 1), some (dN m), some (.loc 0), e3, some (dN z)] s = some (.rt (dN (z / 16 % m)) s) := fun z =>
    st_ret (ev_bin (ev_u (ev_bin (ev_var rfl) ev_c (o_div_nn (by decide) (by decide))) v_int_i) (ev_var rfl) (o_mod_nn hm))
  exact sq_nx sA (sq_nx (sB _ (Nat.mod_lt _ (by decide))) (sq_nx (sC _ (Nat.mod_lt _ (by decide))) (sR _)))
theorem pick_ok (b : Bag) (m : Nat) (hm : 0 < m) (hm2 : m ≤ 1000000) (g : Good st) : f__law_pick [.loc 1, dN m] (B2 b st) = some (.ok (dN (drwB b m).1) (B2 (drwB b m).2 st)) := by
  obtain ⟨sd, turn, gr, al⟩ := b
  have i3 : ∀ (a b c d : Option D), eIx (eVar 0) (eC (dN 3)) [some (.loc 1), a, b, c, d] (B2 ⟨sd, turn, gr, al⟩ st) = some (.ok (oD dN al) (B2 ⟨sd, turn, gr, al⟩ st)) := fun a b c d => ev_ix (ev_var rfl) ev_c (ix_loc (ds := [dN sd, dN turn, .loc 0, oD dN al]) rfl rfl)
  show scp _ _ = _
  cases al with
  | some a =>
    refine def_bag (b' := ⟨sd, turn, gr, some a⟩) (run_rt ?_) rfl rfl rfl (fun _ => rfl) g
    refine sq_rt (st_if (B := true) (ev_cmp (i3 _ _ _ _) ev_c c_isNN) ?_)
    rw [if_pos rfl]
    exact st_ret (ev_bin (ev_u (i3 _ _ _ _) v_int_i) (ev_var rfl) (o_mod_nn hm))
  | none =>
    have e0 : sIf (tCmp dIsNotN' (eIx (eVar 0) (eC (dN 3))) (eC .non)) (sRet (eBin oMod (eU' (gU uInt) (eIx (eVar 0) (eC (dN 3)))) (eVar 1))) sSkip [some (.loc 1), some (dN m), none, none, none] (B2 ⟨sd, turn, gr, none⟩ st) = some (.nx [some (.loc 1), some (dN m), none, none, none] (B2 ⟨sd, turn, gr, none⟩ st)) :=
      st_if (B := false) (ev_cmp (i3 _ _ _ _) ev_c c_isNN) (if_f rfl st_skip)
    have e1 : sPut (eVar 0) (eC (dN 1)) (eBin oAdd (eIx (eVar 0) (eC (dN 1))) (eC (dN 1))) [some (.loc 1), some (dN m), none, none, none] (B2 ⟨sd, turn, gr, none⟩ st) = some (.nx [some (.loc 1), some (dN m), none, none, none] (B2 ⟨sd, turn + 1, gr, none⟩ st)) :=
      st_put (l := 1) (k := 1) (ds := [dN sd, dN turn, .loc 0, .non]) (ev_bin (ev_ix (ev_var rfl) ev_c (ix_loc (ds := [dN sd, dN turn, .loc 0, .non]) rfl rfl)) ev_c o_add_nn) (ev_var rfl) ev_c rfl (Nat.le_of_ble_eq_true rfl) rfl
    have e2 : sSet 2 (eIx (eVar 0) (eC (dN 2))) [some (.loc 1), some (dN m), none, none, none] (B2 ⟨sd, turn + 1, gr, none⟩ st) = some (.nx [some (.loc 1), some (dN m), some (.loc 0), none, none] (B2 ⟨sd, turn + 1, gr, none⟩ st)) :=
      (st_set (n := 2) (ev_ix (ev_var rfl) ev_c (ix_loc (ds := [dN sd, dN (turn + 1), .loc 0, .non]) rfl rfl)) (Nat.le_of_ble_eq_true rfl)).trans rfl
    have t4 : tCmp dGt (eU' gLen (eVar 2)) (eC (dN 0)) [some (.loc 1), some (dN m), some (.loc 0), none, none] (B2 ⟨sd, turn + 1, gr, none⟩ st) = some (.ok (decide (0 < gr.length)) (B2 ⟨sd, turn + 1, gr, none⟩ st)) :=
      ev_cmp (ev_u (ev_var rfl) (len_loc (ds := gr.map dN) rfl v_len_l)) ev_c c_gt_nn
    cases gr with
    | nil =>
      have tl := tail_ok (st := st) sd turn [] none m hm none none
      refine def_bag (b' := ⟨sd, turn + 1, [], none⟩) (run_rt ?_) rfl rfl rfl (fun _ => rfl) g
      exact sq_nx e0 (sq_nx e1 (sq_nx e2 (sq_nx (st_if t4 rfl) tl)))
    | cons x xs =>
      have e5 : sSet 3 (eBin oMod (eU' (gU uInt) (eIx (eVar 2) (eC (dN 0)))) (eVar 1)) [some (.loc 1), some (dN m), some (.loc 0), none, none] (B2 ⟨sd, turn + 1, x :: xs, none⟩ st) = some (.nx [some (.loc 1), some (dN m), some (.loc 0), some (dN (x % m)), none] (B2 ⟨sd, turn + 1, x :: xs, none⟩ st)) :=
        (st_set (n := 3) (ev_bin (ev_u (ev_ix (ev_var rfl) ev_c (ix_loc (ds := (x :: xs).map dN) rfl (v_ix_l (f := dN) (xs := x :: xs) (k := 0) (by simp)))) v_int_i) (ev_var rfl) (o_mod_nn hm)) (Nat.le_of_ble_eq_true rfl)).trans rfl
      have e6 : sPut (eVar 2) (eC (dN 0)) (eBin oDiv (eU' (gU uInt) (eIx (eVar 2) (eC (dN 0)))) (eVar 1)) [some (.loc 1), some (dN m), some (.loc 0), some (dN (x % m)), none] (B2 ⟨sd, turn + 1, x :: xs, none⟩ st) = some (.nx [some (.loc 1), some (dN m), some (.loc 0), some (dN (x % m)), none] (B2 ⟨sd, turn + 1, x / m :: xs, none⟩ st)) :=
        st_put (l := 0) (k := 0) (ds := (x :: xs).map dN) (ev_bin (ev_u (ev_ix (ev_var rfl) ev_c (ix_loc (ds := (x :: xs).map dN) rfl (v_ix_l (f := dN) (xs := x :: xs) (k := 0) (by simp)))) v_int_i) (ev_var rfl) (o_div_nn hm hm2)) (ev_var rfl) ev_c rfl (by simp) rfl
      have t7 : tCmp dEq (eIx (eVar 2) (eC (dN 0))) (eC (dN 0)) [some (.loc 1), some (dN m), some (.loc 0), some (dN (x % m)), none] (B2 ⟨sd, turn + 1, x / m :: xs, none⟩ st) = some (.ok (decide (x / m = 0)) (B2 ⟨sd, turn + 1, x / m :: xs, none⟩ st)) :=
        ev_cmp (ev_ix (ev_var rfl) ev_c (ix_loc (ds := (x / m :: xs).map dN) rfl (v_ix_l (f := dN) (xs := x / m :: xs) (k := 0) (by simp)))) ev_c (c_eq (f := dN) (by decide))
      have e7 : sIf (tCmp dEq (eIx (eVar 2) (eC (dN 0))) (eC (dN 0))) (sExpr (ePopAt (eVar 2) (eC (dN 0)))) sSkip [some (.loc 1), some (dN m), some (.loc 0), some (dN (x % m)), none] (B2 ⟨sd, turn + 1, x / m :: xs, none⟩ st) = some (.nx [some (.loc 1), some (dN m), some (.loc 0), some (dN (x % m)), none] (B2 ⟨sd, turn + 1, if x / m = 0 then xs else x / m :: xs, none⟩ st)) := by
        by_cases q : x / m = 0
        · rw [if_pos q]
          exact st_if t7 (by rw [if_pos (decide_eq_true q)]; exact st_expr (e_popat (l := 0) (k := 0) (ds0 := (x / m :: xs).map dN) (ds := (x / m :: xs).map dN) (ev_var rfl) rfl ev_c rfl rfl (by decide) rfl))
        · rw [if_neg q]
          exact st_if t7 (by rw [if_neg (by simpa using q)]; rfl)
      refine def_bag (b' := ⟨sd, turn + 1, if x / m = 0 then xs else x / m :: xs, none⟩) (run_rt ?_) rfl rfl rfl (fun _ => rfl) g
      exact sq_nx e0 (sq_nx e1 (sq_nx e2 (sq_rt (st_if t4 (sq_nx e5 (sq_nx e6 (sq_nx e7 (st_ret (ev_var rfl)))))))))
theorem some_ok {α : Type} [Inhabited α] (f : α → D) (xs : List α) (h0 : xs ≠ []) (hl : xs.length ≤ 1000000) (hlo : ∀ x, isLoc (f x) = false) (hlow : ∀ n x, below n (f x) = true) (b : Bag) (g : Good st) : ∃ i b', i < xs.length ∧ f__law_some [.loc 1, .lst (xs.map f)] (B2 b st) = some (.ok (f (xs.getD i default)) (B2 b' st)) := by
  have hp : 0 < xs.length := List.length_pos_iff.mpr h0
  have hd := pick_ok (st := st) b xs.length hp hl g
  have hlt := drwB_lt b hp
  refine ⟨(drwB b xs.length).1, (drwB b xs.length).2, hlt, ?_⟩
  show scp _ _ = _
  refine def_bag (b' := (drwB b xs.length).2) (run_rt (st_ret ?_)) rfl rfl (hlo _) (fun n => hlow n _) g
  exact ev_ix (ev_var rfl) (ev_call (ev_cons (ev_var rfl) (ev_cons (ev_u (ev_var rfl) v_len_l) ev_nil)) hd) (v_ix_l hlt)
theorem sum2 (s : Store) (xs : List Int) (h : xs.length < 2) : ∃ i : Int, gSum s (.lst (xs.map iN)) = some (.int i) := by
  cases xs with
  | nil => exact ⟨0, rfl⟩
  | cons x xs =>
    cases xs with
    | nil => exact ⟨[x].sum, rfl⟩
    | cons y ys => rw [List.length_cons, List.length_cons] at h; omega
theorem bag_ok (xs : List Int) : ∃ b : Bag, f__law_bag [.rol (xs.map iN)] [] = some (.ok (.loc 1) (B2 b [])) := by
  let cs := xs.take 63
  let big := fun i : Int => decide (1000000000000000000 ≤ i.natAbs)
  let gr := (cs.filter big).map Int.natAbs
  have hcs : cs.length ≤ 63 := by show (xs.take 63).length ≤ 63; rw [List.length_take]; omega
  have hlr : gLen ([] : Store) (.rol (xs.map iN)) = some (dN xs.length) := by
    show some (D.int (((xs.map iN).length : Nat) : Int)) = _
    rw [List.length_map]
  have hlr1 : ∀ s : Store, gLen s (.rol (xs.map iN)) = some (dN xs.length) := fun s => by
    show some (D.int (((xs.map iN).length : Nat) : Int)) = _
    rw [List.length_map]
  obtain ⟨σ', s', e, sd, a2, rfl, rfl⟩ := for_inv (G := gVar 2) (b := (sSet 1 (eBin oMod (eU' (gU uInt) (eBin oAdd (eBin oAdd (eBin oMul (eVar 1) (eC (dN 69621))) (eBin oMod (eU' (gU uInt) (eVar 2)) (eC (dN 1000003)))) (eC (dN 7)))) (eC (dN 2147483647))))) iN
    (fun _ σ s => ∃ (sd : Nat) (a2 : Option D), σ = [some (.rol (xs.map iN)), some (dN sd), a2, none, none] ∧ s = ([] : Store)) cs (σ := [some (.rol (xs.map iN)), some (dN (41 + xs.length)), none, none, none]) (st := []) ⟨41 + xs.length, none, rfl, rfl⟩ (by
    rintro pre i post σ s _ ⟨sd, a2, rfl, rfl⟩
    have hmod : oMod (.int i) (dN 1000003) = some (dN (i % 1000003).toNat) := (o_mod_ii (i := i) (j := 1000003) (by decide)).trans (by
      show some (D.int (i % 1000003)) = some (D.int (((i % 1000003).toNat : Nat) : Int))
      congr 2
      have := Int.emod_nonneg i (show (1000003 : Int) ≠ 0 by decide)
      omega)
    apply step_nx rfl
    · exact (st_set (n := 1) (ev_bin (ev_u (ev_bin (ev_bin (ev_bin (ev_var rfl) ev_c (o_mul_nn (by decide))) (ev_bin (ev_u (ev_var rfl) v_int_i) ev_c hmod) o_add_nn) ev_c o_add_nn) v_int_i) ev_c (o_mod_nn (by decide))) (Nat.le_of_ble_eq_true rfl)).trans rfl
    · exact ⟨_, _, rfl, rfl⟩)
  have s1 : sSet 1 (eBin oAdd (eC (dN 41)) (eU' gLen (eVar 0))) [some (.rol (xs.map iN)), none, none, none, none] [] = some (.nx [some (.rol (xs.map iN)), some (dN (41 + xs.length)), none, none, none] []) :=
    (st_set (n := 1) (ev_bin ev_c (ev_u (ev_var rfl) hlr) o_add_nn) (Nat.le_of_ble_eq_true rfl)).trans rfl
  have s3 : sSet 3 (eNew (lComp (iOf (eSl (eVar 0) pNo (pAt (eC (dN 63))))) (gVar 2) (tCmp dGe (eU' (gU uAbs) (eU' (gU uInt) (eVar 2))) (eBin oPow (eC (dN 10)) (eC (dN 18)))) (eU' (gU uAbs) (eU' (gU uInt) (eVar 2))) [2])) [some (.rol (xs.map iN)), some (dN sd), a2, none, none] [] = some (.nx [some (.rol (xs.map iN)), some (dN sd), a2, some (.loc 0), none] [O.lst (gr.map dN)]) := by
    have e : gr.map dN = (cs.filter big).map fun i => dN i.natAbs := by show ((cs.filter big).map Int.natAbs).map dN = _; rw [List.map_map]; rfl
    rw [e]
    exact (st_set (n := 3) (ev_new (ev_comp (xs := cs) (f := iN) (p := big) (q := fun i => dN i.natAbs) (sg := fun i => [some (.rol (xs.map iN)), some (dN sd), some (iN i), none, none]) (ev_iof (ev_sl (ev_var rfl) ev_pno (ev_pat ev_c) v_sl_to_r) rfl) (fun _ _ => rfl) (fun i _ => ev_cmp (ev_u (ev_u (ev_var rfl) v_int_i) v_abs_i) (ev_bin ev_c ev_c o_pow_18) c_ge_nn) (fun i _ _ => ev_u (ev_u (ev_var rfl) v_int_i) v_abs_i) (by omega)) ⟨rfl, rfl⟩) (Nat.le_of_ble_eq_true rfl)).trans rfl
  have s4 : sSet 4 (eC .non) [some (.rol (xs.map iN)), some (dN sd), a2, some (.loc 0), none] [O.lst (gr.map dN)] = some (.nx [some (.rol (xs.map iN)), some (dN sd), a2, some (.loc 0), some .non] [O.lst (gr.map dN)]) := (st_set (n := 4) ev_c (Nat.le_of_ble_eq_true rfl)).trans rfl
  have t5 : ∃ B, tAnd (tCmp dLt (eU' gLen (eVar 0)) (eC (dN 2))) (tCmp dEq (eU' gLen (eVar 3)) (eC (dN 0))) [some (.rol (xs.map iN)), some (dN sd), a2, some (.loc 0), some .non] [O.lst (gr.map dN)] = some (.ok (decide (xs.length < 2) && B) [O.lst (gr.map dN)]) :=
    ⟨_, ev_and (ev_cmp (ev_u (ev_var rfl) (hlr1 _)) ev_c c_lt_nn) (andK_b fun _ => ev_cmp (ev_u (ev_var rfl) (len_loc (ds := gr.map dN) rfl v_len_l)) ev_c (c_eq (f := dN) (by decide)))⟩
  obtain ⟨B, t5⟩ := t5
  have s5 : ∃ al : Option Nat, sIf (tAnd (tCmp dLt (eU' gLen (eVar 0)) (eC (dN 2))) (tCmp dEq (eU' gLen (eVar 3)) (eC (dN 0)))) (sSet 4 (eU' (gU uAbs) (eU' gSum (eL (lComp (iOf (eVar 0)) (gVar 2) tYes (eU' (gU uInt) (eVar 2)) [2]))))) sSkip [some (.rol (xs.map iN)), some (dN sd), a2, some (.loc 0), some .non] [O.lst (gr.map dN)] = some (.nx [some (.rol (xs.map iN)), some (dN sd), a2, some (.loc 0), some (oD dN al)] [O.lst (gr.map dN)]) := by
    by_cases q : (decide (xs.length < 2) && B) = true
    · have hlt : xs.length < 2 := by rw [Bool.and_eq_true] at q; exact of_decide_eq_true q.1
      have hsum := sum2 [O.lst (gr.map dN)] xs hlt
      obtain ⟨i, hi⟩ := hsum
      refine ⟨some i.natAbs, st_if t5 ?_⟩
      rw [if_pos q]
      exact (st_set (n := 4) (ev_u (ev_u (ev_l (ev_comp_all (xs := xs) (f := iN) (q := iN) (sg := fun i => [some (.rol (xs.map iN)), some (dN sd), some (iN i), some (.loc 0), some .non]) (ev_iof (ev_var rfl) rfl) (fun _ _ => rfl) (fun i _ => ev_u (ev_var rfl) v_int_i) (by omega))) hi) v_abs_i) (Nat.le_of_ble_eq_true rfl)).trans rfl
    · exact ⟨none, st_if t5 (by rw [if_neg q]; rfl)⟩
  obtain ⟨al, s5⟩ := s5
  refine ⟨⟨sd, 1, gr, al⟩, ?_⟩
  show runB _ _ _ _ = _
  apply run_rt
  refine sq_nx s1 (sq_nx (st_for (ev_iof (ev_sl (ev_var rfl) ev_pno (ev_pat ev_c) v_sl_to_r) rfl) e) (sq_nx s3 (sq_nx s4 (sq_nx s5 (st_ret ?_)))))
  exact ev_new (ds := [dN sd, dN 1, .loc 0, oD dN al]) (ev_disp (ev_cons (ev_var rfl) (ev_cons ev_c (ev_cons (ev_var rfl) (ev_cons (ev_var rfl) ev_nil)))) (by rw [okLen_eq]; rfl)) ⟨rfl, rfl⟩
end
section
open Ww
variable {st : Store}
/-- [x for x in xs if t] where t draws: what is kept has passed -/
theorem siftQ_go {α β : Type} {f : α → D} {G : G} {t : T} {e : E} {σ : Mi.Env} (sto : β → Store) (s : α → Mi.Env) (q : α → D) (N : α → Prop) : ∀ (xs : List α) (b : β), (∀ x ∈ xs, G (f x) σ = some (s x)) → (∀ x ∈ xs, ∀ b, ∃ B b', (B = true → N x) ∧ t (s x) (sto b) = some (.ok B (sto b'))) → (∀ x ∈ xs, ∀ b, e (s x) (sto b) = some (.ok (q x) (sto b))) →
    ∃ (ys : List α) (b' : β), ys.Sublist xs ∧ (∀ y ∈ ys, N y) ∧ compFix G t e σ (xs.map f) (sto b) = some (.ok (ys.map q) (sto b'))
  | [], b, _, _, _ => ⟨[], b, .slnil, fun _ h => (nomatch h), rfl⟩
  | x :: xs, b, h1, h2, h3 => by
    obtain ⟨B, b1, hN, e1⟩ := h2 x (.head _) b
    obtain ⟨ys, b2, hs, hy, e2⟩ := siftQ_go sto s q N xs b1 (fun y hy => h1 y (.tail _ hy)) (fun y hy => h2 y (.tail _ hy)) (fun y hy => h3 y (.tail _ hy))
    cases B with
    | true =>
      refine ⟨x :: ys, b2, hs.cons₂ x, fun y h => (List.mem_cons.mp h).elim (fun z => z ▸ hN rfl) (hy y), ?_⟩
      rw [List.map_cons]
      unfold compFix
      rw [h1 x (.head _)]
      dsimp only
      rw [bndN_ok e1, if_pos rfl, bndN_ok (h3 x (.head _) b1), bndN_ok e2]
      rfl
    | false =>
      refine ⟨ys, b2, hs.cons x, hy, ?_⟩
      rw [List.map_cons]
      unfold compFix
      rw [h1 x (.head _)]
      dsimp only
      rw [bndN_ok e1, if_neg Bool.false_ne_true]
      exact e2
theorem ev_siftQ {α β : Type} {f : α → D} {s : I} {G : G} {t : T} {e : E} {vs : List Nat} {xs : List α} {σ : Mi.Env} {st : Store} (sto : β → Store) (b : β) {sg : α → Mi.Env} {q : α → D} (N : α → Prop) (h : s σ st = some (.ok (.fix (xs.map f)) (sto b))) (h1 : ∀ x ∈ xs, G (f x) (Mi.wipe σ vs) = some (sg x)) (h2 : ∀ x ∈ xs, ∀ b, ∃ B b', (B = true → N x) ∧ t (sg x) (sto b) = some (.ok B (sto b')))
    (h3 : ∀ x ∈ xs, ∀ b, e (sg x) (sto b) = some (.ok (q x) (sto b))) (hl : xs.length ≤ 1000000) : ∃ (ys : List α) (b' : β), ys.Sublist xs ∧ (∀ y ∈ ys, N y) ∧ lComp s G t e vs σ st = some (.ok (ys.map q) (sto b')) := by
  obtain ⟨ys, b', hs, hy, e'⟩ := siftQ_go sto sg q N xs b h1 h2 h3
  refine ⟨ys, b', hs, hy, ?_⟩
  unfold lComp
  rw [bnd_ok h]
  dsimp only
  rw [bnd_ok e', if_pos]
  · rfl
  · refine okLen_of _ ?_
    rw [List.length_map]
    exact Nat.le_trans hs.length_le hl
theorem push_b {b : Bag} {ext : Store} {o : O} : Push (B2 b (st ++ ext)) o ((st ++ ext).length + 2) (B2 b (st ++ (ext ++ [o]))) := ⟨rfl, by
  show gO b :: bO b :: (st ++ (ext ++ [o])) = gO b :: bO b :: ((st ++ ext) ++ [o])
  rw [List.append_assoc]⟩
theorem at_b {b : Bag} {ext : Store} {o : O} : (B2 b (st ++ (ext ++ [o])))[(st ++ ext).length + 2]? = some o := by
  rw [← List.append_assoc]
  show ((st ++ ext) ++ [o])[(st ++ ext).length]? = some o
  exact at_last
/-! ### drawn webs -/
structure RowsOk (n k : Nat) (C : List (List Nat)) : Prop where
  len : C.length = k
  row : ∀ i < k, (nbr C i).Pairwise (· < ·) ∧ ∀ y ∈ nbr C i, y < n ∧ i ≠ y
theorem RowsOk.web {n : Nat} {C : List (List Nat)} (h : RowsOk n n C) (h1 : 1 ≤ n) (h9 : n ≤ 9) : Web C := web_mk h.len h1 h9 (fun i hi => (h.row i hi).1) fun i hi => (h.row i hi).2
theorem RowsOk.snoc {n k : Nat} {C : List (List Nat)} (h : RowsOk n k C) {r : List Nat} (h1 : r.Pairwise (· < ·)) (h2 : ∀ y ∈ r, y < n ∧ k ≠ y) : RowsOk n (k + 1) (C ++ [r]) := by
  refine ⟨by rw [List.length_append, h.len]; rfl, fun i hi => ?_⟩
  by_cases q : i < k
  · have : nbr (C ++ [r]) i = nbr C i := by
      show (C ++ [r]).getD i default = C.getD i default
      rw [List.getD_eq_getElem?_getD, List.getD_eq_getElem?_getD, List.getElem?_append_left (by rw [h.len]; exact q)]
    rw [this]
    exact h.row i q
  · have e : i = k := by omega
    subst e
    have : nbr (C ++ [r]) i = r := by
      show (C ++ [r]).getD i default = r
      rw [List.getD_eq_getElem?_getD, List.getElem?_append_right (by rw [h.len]; exact Nat.le_refl _), h.len, Nat.sub_self]; rfl
    rw [this]
    exact ⟨h1, h2⟩
theorem rows_map (n : Nat) (F : Nat → List Nat) (h : ∀ i < n, (F i).Pairwise (· < ·) ∧ ∀ y ∈ F i, y < n ∧ i ≠ y) : RowsOk n n ((List.range n).map F) := by
  refine ⟨by rw [List.length_map, List.length_range], fun i hi => ?_⟩
  have : nbr ((List.range n).map F) i = F i := by
    show ((List.range n).map F).getD i default = _
    rw [List.getD_eq_getElem?_getD, List.getElem?_map, List.getElem?_range hi]; rfl
  rw [this]
  exact h i hi
abbrev cD : List Nat → D := lD dN
abbrev EW (most n share l : Nat) (a5 a6 : Option D) : Mi.Env := [some (.loc 1), some (dN most), some (dN n), some (dN share), some (.loc l), a5, a6, none, none]
def nearR (n p : Nat) : List Nat := (List.range n).filter fun y => decide (p + 1 = y) || decide (y + 1 = p)
theorem near_eq : ∀ n < 10, ∀ x < n, ([((x : Nat) : Int) - ((1 : Nat) : Int), ((x + 1 : Nat) : Int)].filter fun y => decide (((0 : Nat) : Int) ≤ y) && decide (y < (n : Int))) = (nearR n x).map fun w => ((w : Nat) : Int) := by decide +kernel
def nextR (n p : Nat) : List Nat := if 1 < n then [(p + 1) % n] else []
theorem next_ne : ∀ n < 10, ∀ p < n, 1 < n → p ≠ (p + 1) % n := by decide +kernel
@[reducible] def if1 : S := (sIf (tCmp dEq (eVar 6) (eC (dN 1))) (sSet 4 (eNew (lComp (iRange (eVar 2)) (gVar 5) tYes (eL (lComp (iOf (eL (lDisp (eCons (eBin oSub (eVar 5) (eC (dN 1))) (eCons (eBin oAdd (eVar 5) (eC (dN 1))) eNil))))) (gVar 7) (tChain dLe dLt (eC (dN 0)) (eVar 7) (eVar 2)) (eVar 7) [7])) [5]))) sSkip)
@[reducible] def if2 : S := (sIf (tCmp dEq (eVar 6) (eC (dN 2))) (sSet 4 (eNew (lComp (iRange (eVar 2)) (gVar 5) tYes (eIf (tCmp dGt (eVar 2) (eC (dN 1))) (eL (lDisp (eCons (eBin oMod (eU' (gU uInt) (eBin oAdd (eVar 5) (eC (dN 1)))) (eVar 2)) eNil))) (eL (lDisp eNil))) [5]))) sSkip)
@[reducible] def if3 : S := (sIf (tCmp dEq (eVar 6) (eC (dN 3))) (sSet 4 (eNew (lCompE (eVar 4) (gSet2 5 8) tYes (eIf (tCmp dEq (eBin oMod (eU' (gU uInt) (eVar 5)) (eC (dN 2))) (eC (dN 0))) (eVar 8) (eL (lDisp eNil))) [5, 8]))) sSkip)
theorem if1_ok (b : Bag) (most n share l way : Nat) (h9 : n ≤ 9) (ext : Store) (C : List (List Nat)) (hC : RowsOk n n C) (hat : (B2 b (st ++ ext))[l]? = some (O.lst (C.map cD))) (a5 : Option D) :
    ∃ l' ext' C', RowsOk n n C' ∧ (B2 b (st ++ ext'))[l']? = some (O.lst (C'.map cD)) ∧ if1 (EW most n share l a5 (some (dN way))) (B2 b (st ++ ext)) = some (.nx (EW most n share l' a5 (some (dN way))) (B2 b (st ++ ext'))) := by
  have t : tCmp dEq (eVar 6) (eC (dN 1)) (EW most n share l a5 (some (dN way))) (B2 b (st ++ ext)) = some (.ok (decide (way = 1)) (B2 b (st ++ ext))) := ev_cmp (ev_var rfl) ev_c (c_eq (f := dN) (by decide))
  by_cases q : way = 1
  · refine ⟨(st ++ ext).length + 2, ext ++ [O.lst (((List.range n).map (nearR n)).map cD)], (List.range n).map (nearR n), rows_map n _ fun i hi => ⟨List.pairwise_lt_range.sublist List.filter_sublist, fun y hy => ?_⟩, at_b, st_if t ?_⟩
    · obtain ⟨h1, h2⟩ := List.mem_filter.mp hy
      rw [Bool.or_eq_true, decide_eq_true_eq, decide_eq_true_eq] at h2
      exact ⟨List.mem_range.mp h1, by omega⟩
    · rw [if_pos (decide_eq_true q)]
      refine (st_set (n := 4) (ev_new (ds := ((List.range n).map (nearR n)).map cD) ?_ push_b) (Nat.le_of_ble_eq_true rfl)).trans rfl
      rw [List.map_map]
      refine ev_comp_all (xs := List.range n) (f := dN) (q := cD ∘ nearR n) (sg := fun p => EW most n share l (some (dN p)) (some (dN way))) (ev_irange (ev_var rfl) (by omega)) (fun _ _ => rfl) (fun p hp => ?_) (by rw [List.length_range]; omega)
      have e := near_eq n (by omega) p (List.mem_range.mp hp)
      have e2 : ((nearR n p).map dN) = ([((p : Nat) : Int) - ((1 : Nat) : Int), ((p + 1 : Nat) : Int)].filter fun y => decide (((0 : Nat) : Int) ≤ y) && decide (y < (n : Int))).map iN := by rw [e, List.map_map]; rfl
      show eL _ _ _ = some (.ok (.lst ((nearR n p).map dN)) _)
      rw [e2]
      exact ev_l (ev_comp (xs := [((p : Nat) : Int) - ((1 : Nat) : Int), ((p + 1 : Nat) : Int)]) (f := iN) (p := fun y => decide (((0 : Nat) : Int) ≤ y) && decide (y < (n : Int))) (q := iN) (sg := fun y => [some (.loc 1), some (dN most), some (dN n), some (dN share), some (.loc l), some (dN p), some (dN way), some (iN y), none]) (ev_iof (ev_l (ev_disp (ev_cons (ev_bin (ev_var rfl) ev_c o_sub_ii) (ev_cons (ev_bin (ev_var rfl) ev_c o_add_nn) ev_nil)) (by rw [okLen_eq]; rfl))) rfl) (fun _ _ => rfl) (fun y _ => ev_chain ev_c (ev_var rfl) c_le_ii (andK_b fun _ => ev_chain2 (ev_var rfl) c_lt_ii)) (fun _ _ _ => ev_var rfl) (Nat.le_of_ble_eq_true rfl))
  · exact ⟨l, ext, C, hC, hat, st_if t (if_f (decide_eq_false q) st_skip)⟩
theorem if2_ok (b : Bag) (most n share l way : Nat) (h9 : n ≤ 9) (ext : Store) (C : List (List Nat)) (hC : RowsOk n n C) (hat : (B2 b (st ++ ext))[l]? = some (O.lst (C.map cD))) (a5 : Option D) :
    ∃ l' ext' C', RowsOk n n C' ∧ (B2 b (st ++ ext'))[l']? = some (O.lst (C'.map cD)) ∧ if2 (EW most n share l a5 (some (dN way))) (B2 b (st ++ ext)) = some (.nx (EW most n share l' a5 (some (dN way))) (B2 b (st ++ ext'))) := by
  have t : tCmp dEq (eVar 6) (eC (dN 2)) (EW most n share l a5 (some (dN way))) (B2 b (st ++ ext)) = some (.ok (decide (way = 2)) (B2 b (st ++ ext))) := ev_cmp (ev_var rfl) ev_c (c_eq (f := dN) (by decide))
  by_cases q : way = 2
  · refine ⟨(st ++ ext).length + 2, ext ++ [O.lst (((List.range n).map (nextR n)).map cD)], (List.range n).map (nextR n), rows_map n _ fun i hi => ?_, at_b, st_if t ?_⟩
    · unfold nextR
      by_cases z : 1 < n
      · rw [if_pos z]
        exact ⟨List.pairwise_singleton .., fun y hy => by
          have : y = (i + 1) % n := by simpa using hy
          subst this
          exact ⟨Nat.mod_lt _ (by omega), next_ne n (by omega) i hi z⟩⟩
      · rw [if_neg z]
        exact ⟨.nil, fun y hy => nomatch hy⟩
    · rw [if_pos (decide_eq_true q)]
      refine (st_set (n := 4) (ev_new (ds := ((List.range n).map (nextR n)).map cD) ?_ push_b) (Nat.le_of_ble_eq_true rfl)).trans rfl
      rw [List.map_map]
      refine ev_comp_all (xs := List.range n) (f := dN) (q := cD ∘ nextR n) (sg := fun p => EW most n share l (some (dN p)) (some (dN way))) (ev_irange (ev_var rfl) (by omega)) (fun _ _ => rfl) (fun p hp => ?_) (by rw [List.length_range]; omega)
      have tn : tCmp dGt (eVar 2) (eC (dN 1)) (EW most n share l (some (dN p)) (some (dN way))) (B2 b (st ++ ext)) = some (.ok (decide (1 < n)) (B2 b (st ++ ext))) := ev_cmp (ev_var rfl) ev_c c_gt_nn
      show eIf _ _ _ _ _ = some (.ok (.lst ((nextR n p).map dN)) _)
      unfold nextR
      by_cases z : 1 < n
      · rw [if_pos z]
        exact ev_if tn (if_t (decide_eq_true z) (ev_l (ev_disp (ev_cons (ev_bin (ev_u (ev_bin (ev_var rfl) ev_c o_add_nn) v_int_i) (ev_var rfl) (o_mod_nn (by omega))) ev_nil) (by rw [okLen_eq]; rfl))))
      · rw [if_neg z]
        exact ev_if tn (if_f (decide_eq_false z) (ev_l (ev_disp ev_nil (by rw [okLen_eq]; rfl))))
  · exact ⟨l, ext, C, hC, hat, st_if t (if_f (decide_eq_false q) st_skip)⟩
/-- [e for i, x in enumerate(xs)] of a list of the store that stays -/
theorem compE_go {α : Type} {f : α → D} {G : G} {e : E} {σ : Mi.Env} {s : Store} {l : Nat} {xs : List α} (hl : s[l]? = some (O.lst (xs.map f))) (sg : Nat → α → Mi.Env) (q : Nat → α → D) (h1 : ∀ i x, xs[i]? = some x → G (.tup [.int (i : Nat), f x]) σ = some (sg i x)) (h3 : ∀ i x, xs[i]? = some x → e (sg i x) s = some (.ok (q i x) s)) :
    ∀ (m i : Nat), m + i = xs.length → compLiveE G tYes e σ l m i s = some (.ok (((xs.zipIdx).drop i).map fun z => q z.2 z.1) s)
  | 0, i, h => by
    unfold compLiveE
    rw [hl]
    dsimp only
    rw [if_pos (by rw [List.length_map]; omega), List.drop_eq_nil_of_le (by rw [List.length_zipIdx]; omega)]
    rfl
  | m + 1, i, h => by
    have ih := compE_go hl sg q h1 h3 m (i + 1) (by omega)
    have hi : i < xs.length := by omega
    have hx : xs[i]? = some xs[i] := List.getElem?_eq_getElem hi
    unfold compLiveE
    rw [hl]
    dsimp only
    rw [List.getElem?_map, hx]
    dsimp only [Option.map_some]
    rw [h1 i _ hx]
    dsimp only
    rw [bndN_ok (show tYes (sg i xs[i]) s = some (.ok true s) from rfl), if_pos rfl, bndN_ok (h3 i _ hx), bndN_ok ih]
    rw [List.drop_eq_getElem_cons (l := xs.zipIdx) (i := i) (by rw [List.length_zipIdx]; exact hi), List.map_cons, List.getElem_zipIdx]
    show some _ = some _
    rw [Nat.zero_add]
theorem ev_compE {α : Type} {f : α → D} {a : E} {G : G} {e : E} {vs : List Nat} {σ : Mi.Env} {s s1 : Store} {l : Nat} {xs : List α} (h : a σ s = some (.ok (.loc l) s1)) (hl : s1[l]? = some (O.lst (xs.map f))) (sg : Nat → α → Mi.Env) (q : Nat → α → D) (h1 : ∀ i x, xs[i]? = some x → G (.tup [.int (i : Nat), f x]) (Mi.wipe σ vs) = some (sg i x)) (h3 : ∀ i x, xs[i]? = some x → e (sg i x) s1 = some (.ok (q i x) s1)) (hn : xs.length ≤ 1000000) :
    lCompE a G tYes e vs σ s = some (.ok ((xs.zipIdx).map fun z => q z.2 z.1) s1) := by
  unfold lCompE
  rw [bnd_ok h]
  dsimp only
  rw [hl]
  dsimp only
  have := compE_go hl sg q h1 h3 xs.length 0 rfl
  rw [List.drop_zero] at this
  rw [List.length_map, bnd_ok this, if_pos (okLen_of _ (by rw [List.length_map, List.length_zipIdx]; exact hn))]
  rfl
def oddR (z : List Nat × Nat) : List Nat := if z.2 % 2 = 0 then z.1 else []
theorem if3_ok (b : Bag) (most n share l way : Nat) (h9 : n ≤ 9) (ext : Store) (C : List (List Nat)) (hC : RowsOk n n C) (hat : (B2 b (st ++ ext))[l]? = some (O.lst (C.map cD))) (a5 : Option D) :
    ∃ l' ext' C', RowsOk n n C' ∧ (B2 b (st ++ ext'))[l']? = some (O.lst (C'.map cD)) ∧ if3 (EW most n share l a5 (some (dN way))) (B2 b (st ++ ext)) = some (.nx (EW most n share l' a5 (some (dN way))) (B2 b (st ++ ext'))) := by
  have t : tCmp dEq (eVar 6) (eC (dN 3)) (EW most n share l a5 (some (dN way))) (B2 b (st ++ ext)) = some (.ok (decide (way = 3)) (B2 b (st ++ ext))) := ev_cmp (ev_var rfl) ev_c (c_eq (f := dN) (by decide))
  by_cases q : way = 3
  · refine ⟨(st ++ ext).length + 2, ext ++ [O.lst ((C.zipIdx.map oddR).map cD)], C.zipIdx.map oddR, ⟨by rw [List.length_map, List.length_zipIdx]; exact hC.len, fun i hi => ?_⟩, at_b, st_if t ?_⟩
    · have hil : i < C.length := by rw [hC.len]; exact hi
      have : nbr (C.zipIdx.map oddR) i = if i % 2 = 0 then nbr C i else [] := by
        show (C.zipIdx.map oddR).getD i default = _
        rw [List.getD_eq_getElem?_getD, List.getElem?_map, List.getElem?_zipIdx, List.getElem?_eq_getElem hil, nbr_at hil]
        show oddR (C[i], 0 + i) = _
        rw [Nat.zero_add]; rfl
      rw [this]
      split
      · exact hC.row i hi
      · exact ⟨.nil, fun y hy => nomatch hy⟩
    · rw [if_pos (decide_eq_true q)]
      refine (st_set (n := 4) (ev_new (ds := (C.zipIdx.map oddR).map cD) ?_ push_b) (Nat.le_of_ble_eq_true rfl)).trans rfl
      rw [List.map_map]
      refine ev_compE (f := cD) (xs := C) (ev_var rfl) hat (fun i x => [some (.loc 1), some (dN most), some (dN n), some (dN share), some (.loc l), some (dN i), some (dN way), none, some (cD x)]) (fun i x => cD (oddR (x, i))) (fun i x _ => rfl) (fun i x _ => ?_) (by rw [hC.len]; omega)
      have tn : tCmp dEq (eBin oMod (eU' (gU uInt) (eVar 5)) (eC (dN 2))) (eC (dN 0)) [some (.loc 1), some (dN most), some (dN n), some (dN share), some (.loc l), some (dN i), some (dN way), none, some (cD x)] (B2 b (st ++ ext)) = some (.ok (decide (i % 2 = 0)) (B2 b (st ++ ext))) := ev_cmp (ev_bin (ev_u (ev_var rfl) v_int_i) ev_c (o_mod_nn (by decide))) ev_c (c_eq (f := dN) (by decide))
      unfold oddR
      dsimp only
      by_cases z : i % 2 = 0
      · rw [if_pos z]
        exact ev_if tn (if_t (decide_eq_true z) (ev_var rfl))
      · rw [if_neg z]
        exact ev_if tn (if_f (decide_eq_false z) (ev_l (ev_disp ev_nil (by rw [okLen_eq]; rfl))))
  · exact ⟨l, ext, C, hC, hat, st_if t (if_f (decide_eq_false q) st_skip)⟩
end
section
open Ww
variable {st : Store}
theorem range_at {n : Nat} {pre : List Nat} {x : Nat} {post : List Nat} (h : pre ++ x :: post = List.range n) : x = pre.length ∧ x < n := by
  have h1 : (List.range n)[pre.length]? = some x := by rw [← h, List.getElem?_append_right (Nat.le_refl _), Nat.sub_self]; rfl
  obtain ⟨q, e⟩ := List.getElem?_eq_some_iff.mp h1
  rw [List.getElem_range] at e
  rw [List.length_range] at q
  exact ⟨e.symm, by omega⟩
theorem good_rows (g : Good st) (C : List (List Nat)) : Good (st ++ [O.lst (C.map cD)]) := g.snoc fun n => belows_enc cD n C
theorem law_web_ok (b : Bag) (g : Good st) : ∃ w b', Web w ∧ f__law_web [.loc 1, dN 9] (B2 b st) = some (.ok (webD w) (B2 b' st)) := by
  have hd9 := pick_ok (st := st) b 9 (by decide) (by decide) g
  have hlt9 := drwB_lt b (m := 9) (by decide)
  generalize drwB b 9 = d9 at hd9 hlt9
  obtain ⟨k, b1⟩ := d9
  dsimp only at hd9 hlt9
  have s2 : sSet 2 (eBin oAdd (eC (dN 1)) (eCall f__law_pick (eCons (eVar 0) (eCons (eVar 1) eNil)))) [some (.loc 1), some (dN 9), none, none, none, none, none, none, none] (B2 b st) = some (.nx [some (.loc 1), some (dN 9), some (dN (1 + k)), none, none, none, none, none, none] (B2 b1 st)) :=
    (st_set (n := 2) (ev_bin ev_c (ev_call (ev_cons (ev_var rfl) (ev_cons (ev_var rfl) ev_nil)) hd9) o_add_nn) (Nat.le_of_ble_eq_true rfl)).trans rfl
  generalize hn : 1 + k = n at s2
  have n1 : 1 ≤ n := by omega
  have n9 : n ≤ 9 := by omega
  obtain ⟨i, b2, hi, es⟩ := some_ok (st := st) dN [2, 3, 5, 1, 12, 4] (by decide) (by decide) (fun _ => rfl) (fun _ _ => rfl) b1 g
  have hsh : 0 < [2, 3, 5, 1, 12, 4].getD i default ∧ [2, 3, 5, 1, 12, 4].getD i default ≤ 12 := by
    have : ∀ i < 6, 0 < [2, 3, 5, 1, 12, 4].getD i default ∧ [2, 3, 5, 1, 12, 4].getD i default ≤ 12 := by decide
    exact this i hi
  generalize [2, 3, 5, 1, 12, 4].getD i default = share at es hsh
  have s3 : sSet 3 (eCall f__law_some (eCons (eVar 0) (eCons (eL (lDisp (eCons (eC (dN 2)) (eCons (eC (dN 3)) (eCons (eC (dN 5)) (eCons (eC (dN 1)) (eCons (eC (dN 12)) (eCons (eC (dN 4)) eNil)))))))) eNil))) [some (.loc 1), some (dN 9), some (dN n), none, none, none, none, none, none] (B2 b1 st) = some (.nx [some (.loc 1), some (dN 9), some (dN n), some (dN share), none, none, none, none, none] (B2 b2 st)) :=
    (st_set (n := 3) (ev_call (ev_cons (ev_var rfl) (ev_cons (ev_l (ev_disp (ev_cons ev_c (ev_cons ev_c (ev_cons ev_c (ev_cons ev_c (ev_cons ev_c (ev_cons ev_c ev_nil)))))) (by rw [okLen_eq]; rfl))) ev_nil)) es) (Nat.le_of_ble_eq_true rfl)).trans rfl
  have s4 : sSet 4 (eNew (lDisp eNil)) [some (.loc 1), some (dN 9), some (dN n), some (dN share), none, none, none, none, none] (B2 b2 st) = some (.nx (EW 9 n share (st.length + 2) none none) (B2 b2 (st ++ [O.lst []]))) :=
    (st_set (n := 4) (ev_new (ev_disp ev_nil (by rw [okLen_eq]; rfl)) (⟨rfl, rfl⟩ : Push (B2 b2 st) (.lst []) (st.length + 2) (B2 b2 (st ++ [O.lst []])))) (Nat.le_of_ble_eq_true rfl)).trans rfl
  obtain ⟨σ', s', e, b3, C, a5, rfl, rfl, hC⟩ := for_inv (G := gVar 5) (b := (sApp (eVar 4) (eL (lComp (iRange (eVar 2)) (gVar 7) (tAnd (tCmp dNe (eVar 7) (eVar 5)) (tCmp dEq (eCall f__law_pick (eCons (eVar 0) (eCons (eVar 3) eNil))) (eC (dN 0)))) (eVar 7) [7])))) dN
    (fun pre σ s => ∃ (b : Bag) (C : List (List Nat)) (a5 : Option D), σ = EW 9 n share (st.length + 2) a5 none ∧ s = B2 b (st ++ [O.lst (C.map cD)]) ∧ RowsOk n pre.length C) (List.range n) (σ := EW 9 n share (st.length + 2) none none) (st := B2 b2 (st ++ [O.lst []])) ⟨b2, [], none, rfl, rfl, ⟨rfl, fun i hi => absurd hi (Nat.not_lt_zero _)⟩⟩ (by
    rintro pre x post σ s hx ⟨b, C, a5, rfl, rfl, hC⟩
    obtain ⟨rfl, hxn⟩ := range_at hx
    have hd := fun b => pick_ok (st := st ++ [O.lst (C.map cD)]) b share hsh.1 (by omega) (good_rows g C)
    obtain ⟨ys, b', hs, hy, ec⟩ := ev_siftQ (s := iRange (eVar 2)) (G := gVar 7) (t := tAnd (tCmp dNe (eVar 7) (eVar 5)) (tCmp dEq (eCall f__law_pick (eCons (eVar 0) (eCons (eVar 3) eNil))) (eC (dN 0)))) (e := eVar 7) (vs := [7]) (xs := List.range n) (f := dN) (σ := EW 9 n share (st.length + 2) (some (dN pre.length)) none) (st := B2 b (st ++ [O.lst (C.map cD)])) (fun b => B2 b (st ++ [O.lst (C.map cD)])) b (sg := fun y => [some (.loc 1), some (dN 9), some (dN n), some (dN share), some (.loc (st.length + 2)), some (dN pre.length), none, some (dN y), none]) (q := dN) (fun y => y ≠ pre.length)
      (ev_irange (ev_var rfl) (by omega)) (fun _ _ => rfl) (fun y _ b => by
        have t1 : tCmp dNe (eVar 7) (eVar 5) [some (.loc 1), some (dN 9), some (dN n), some (dN share), some (.loc (st.length + 2)), some (dN pre.length), none, some (dN y), none] (B2 b (st ++ [O.lst (C.map cD)])) = some (.ok (!decide (y = pre.length)) (B2 b (st ++ [O.lst (C.map cD)]))) := ev_cmp (ev_var rfl) (ev_var rfl) (c_ne (f := dN) (by decide))
        by_cases q : y = pre.length
        · exact ⟨false, b, fun h => (nomatch h), ev_and t1 (andK_f (by simp [q]))⟩
        · exact ⟨_, _, fun _ => q, ev_and t1 (andK_t (by simp [q]) (ev_cmp (ev_call (ev_cons (ev_var rfl) (ev_cons (ev_var rfl) ev_nil)) (hd b)) ev_c (c_eq (f := dN) (by decide))))⟩) (fun y _ b => ev_var rfl) (by rw [List.length_range]; omega)
    have hCl : C.length ≤ 9 := by rw [hC.len]; omega
    apply step_nx rfl
    · exact st_app (l := st.length + 2) (d := cD ys) (ev_var rfl) at_bag (ev_l ec) at_bag (by rw [List.length_map]; omega) rfl
    · refine ⟨b', C ++ [ys], _, rfl, ?_, ?_⟩
      · rw [set_bag, List.map_append]; rfl
      · rw [List.length_append]
        refine hC.snoc (List.pairwise_lt_range.sublist hs) fun y hyy => ?_
        exact ⟨List.mem_range.mp (hs.subset hyy), fun e => hy y hyy e.symm⟩)
  rw [List.length_range] at hC
  have hd6 := pick_ok (st := st ++ [O.lst (C.map cD)]) b3 6 (by decide) (by decide) (good_rows g C)
  generalize drwB b3 6 = d6 at hd6
  obtain ⟨way, b4⟩ := d6
  dsimp only at hd6
  have s6 : sSet 6 (eCall f__law_pick (eCons (eVar 0) (eCons (eC (dN 6)) eNil))) (EW 9 n share (st.length + 2) a5 none) (B2 b3 (st ++ [O.lst (C.map cD)])) = some (.nx (EW 9 n share (st.length + 2) a5 (some (dN way))) (B2 b4 (st ++ [O.lst (C.map cD)]))) :=
    (st_set (n := 6) (ev_call (ev_cons (ev_var rfl) (ev_cons ev_c ev_nil)) hd6) (Nat.le_of_ble_eq_true rfl)).trans rfl
  obtain ⟨l1, x1, C1, h1, t1, e1⟩ := if1_ok (st := st) b4 9 n share (st.length + 2) way n9 [O.lst (C.map cD)] C hC at_bag a5
  obtain ⟨l2, x2, C2, h2, t2, e2⟩ := if2_ok (st := st) b4 9 n share l1 way n9 x1 C1 h1 t1 a5
  obtain ⟨l3, x3, C3, h3, t3, e3⟩ := if3_ok (st := st) b4 9 n share l2 way n9 x2 C2 h2 t2 a5
  refine ⟨C3, b4, h3.web n1 n9, ?_⟩
  show scp _ _ = _
  refine def_bagO (d' := webD C3) (b' := b4) (ext := x3) ?_ rfl rfl rfl (fun k => Enc.low (f := tD (tD dN)) k _) g
  apply run_rt
  refine sq_nx s2 (sq_nx s3 (sq_nx s4 (sq_nx (st_for (ev_irange (ev_var rfl) (by omega)) e) (sq_nx s6 (sq_nx e1 (sq_nx e2 (sq_nx e3 (st_ret ?_))))))))
  have hc : lComp (iOf (eVar 4)) (gVar 8) tYes (eU' Mi.gTup (eVar 8)) [8] (EW 9 n share l3 a5 (some (dN way))) (B2 b4 (st ++ x3)) = some (.ok (C3.map (tD dN)) (B2 b4 (st ++ x3))) := by
    have := ev_compL (G := gVar 8) (t := tYes) (e := eU' Mi.gTup (eVar 8)) (vs := [8]) (σ := EW 9 n share l3 a5 (some (dN way))) (st := B2 b4 (st ++ x3)) (a := eVar 4) (xs := C3) (f := cD) (lo := some l3) (p := fun _ => true) (q := tD dN) (sg := fun r => [some (.loc 1), some (dN 9), some (dN n), some (dN share), some (.loc l3), a5, some (dN way), none, some (cD r)]) (ev_var rfl) (fun l e => by cases e; exact t3) (fun _ _ => rfl) (fun _ _ => ev_yes) (fun r _ _ => ev_u (ev_var rfl) v_tup_l) (by rw [h3.len]; omega)
    rwa [List.filter_eq_self.mpr (fun _ _ => rfl)] at this
  exact ev_u (ev_l hc) v_tup_l
end
section
open Ww
variable {st : Store}
/-! ### whom all find, by the law's own dicts -/
def RowInv (w : List (List Nat)) (u : Nat) (l : List Nat) : Prop := l.Nodup ∧ u ∈ l ∧ ∀ y ∈ l, Rch w u y
def ShutL (w : List (List Nat)) (l : List Nat) : Prop := ∀ x ∈ l, ∀ y ∈ nbr w x, y ∈ l
def RdP (w : List (List Nat)) (t u : Nat) (l : List Nat) : Prop := RowInv w u l ∧ (ShutL w l ∨ t + 1 ≤ l.length)
theorem RowInv.le {w : List (List Nat)} (hw : Web w) {u : Nat} {l : List Nat} (hu : u < w.length) (h : RowInv w u l) : l.length ≤ w.length := by
  have := nodup_le (ys := List.range w.length) h.1 fun y hy => List.mem_range.mpr ((h.2.2 y hy).lt hw hu)
  rwa [List.length_range] at this
theorem shut_all {w : List (List Nat)} {u : Nat} {l : List Nat} (hu : u ∈ l) (h : ShutL w l) {y : Nat} (hr : Rch w u y) : y ∈ l := by
  induction hr with
  | refl => exact hu
  | tail _ h2 ih => exact h _ ih _ h2
theorem rd_step {w : List (List Nat)} {t u : Nat} {S ext : List Nat} (hS : RowInv w u S) (h : ShutL w S ∨ t + 1 ≤ S.length) (hl : RowInv w u (S ++ ext)) (hn : ∀ x ∈ S, ∀ y ∈ nbr w x, y ∈ S ++ ext) : RdP w (t + 1) u (S ++ ext) := by
  refine ⟨hl, ?_⟩
  rcases h with h | h
  · left
    intro x hx y hy
    exact List.mem_append_left _ (shut_all hS.2.1 h (.tail (hl.2.2 x hx) hy))
  · by_cases q : ext = []
    · subst q
      left
      rw [List.append_nil] at hn ⊢
      exact hn
    · right
      rw [List.length_append]
      have := List.length_pos_iff.mpr q
      omega
abbrev locs (st : Store) (n : Nat) : D := .lst ((List.range' st.length n).map D.loc)
theorem loc_ix {s : Store} {n u : Nat} (hu : u < n) : dIx s (locs st n) (dN u) = some (.loc (st.length + u)) := by
  have := v_ix_l (st := s) (f := D.loc) (xs := List.range' st.length n) (k := u) (by rw [List.length_range']; exact hu)
  rw [this, List.getD_eq_getElem?_getD, List.getElem?_range' hu]
  simp
theorem nbr_set {F : List (List Nat)} {u : Nat} {l : List Nat} (hu : u < F.length) (i : Nat) : nbr (F.set u l) i = if i = u then l else nbr F i := by
  show (F.set u l).getD i default = _
  rw [List.getD_eq_getElem?_getD]
  by_cases q : i = u
  · subst q
    rw [List.getElem?_set_self hu, if_pos rfl]; rfl
  · rw [List.getElem?_set_ne (fun e => q e.symm), if_neg q]
    show _ = F.getD i default
    rw [List.getD_eq_getElem?_getD]
def rowsD (F : List (List Nat)) : Store := F.map dctI
theorem rowD_at {F : List (List Nat)} {u : Nat} (hu : u < F.length) : (st ++ rowsD F)[st.length + u]? = some (dctI (nbr F u)) := by
  refine at_ext ?_
  unfold rowsD
  rw [List.getElem?_map, List.getElem?_eq_getElem hu, nbr_at hu]
  rfl
theorem rowD_set {F : List (List Nat)} {u : Nat} {l : List Nat} : (st ++ rowsD F).set (st.length + u) (dctI l) = st ++ rowsD (F.set u l) := by
  rw [set_ext]
  unfold rowsD
  rw [List.map_set]
@[reducible] def bodyX : S := sPutD (eIx (eVar 1) (eVar 3)) (eVar 5) (eC (.bl true))
@[reducible] def bodyO : S := sFor (iOf (eIx (eVar 0) (eVar 4))) (gVar 5) bodyX
@[reducible] def bodyU : S := sFor (iOf (eL (lKeys (eIx (eVar 1) (eVar 3))))) (gVar 4) bodyO
abbrev EX (st : Store) (w : List (List Nat)) (a2 a3 a4 a5 : Option D) : Mi.Env := [some (webD w), some (locs st w.length), a2, a3, a4, a5, none]
theorem insN_ext (S ext : List Nat) (y : Nat) : ∃ ext', insN (S ++ ext) y = S ++ ext' ∧ (∀ z ∈ S ++ ext, z ∈ S ++ ext') ∧ y ∈ S ++ ext' ∧ ∀ z ∈ S ++ ext', z ∈ S ++ ext ∨ z = y := by
  unfold insN
  split
  · rename_i h; exact ⟨ext, rfl, fun _ h => h, h, fun _ h => .inl h⟩
  · refine ⟨ext ++ [y], by rw [List.append_assoc], fun z hz => ?_, by simp, fun z hz => ?_⟩
    · rw [← List.append_assoc]; exact List.mem_append_left _ hz
    · rw [← List.append_assoc] at hz
      rcases List.mem_append.mp hz with h | h
      · exact .inl h
      · exact .inr (by simpa using h)
theorem turnO (w : List (List Nat)) (hw : Web w) (F : List (List Nat)) (hF : F.length = w.length) (u x : Nat) (hu : u < w.length) (S ext : List Nat) (hx : x ∈ S) (hr : RowInv w u (S ++ ext)) (hl : nbr F u = S ++ ext) (a2 a5 : Option D) :
    ∃ ext' a5', RowInv w u (S ++ ext') ∧ (∀ z ∈ S ++ ext, z ∈ S ++ ext') ∧ (∀ y ∈ nbr w x, y ∈ S ++ ext') ∧ bodyO (EX st w a2 (some (dN u)) (some (dN x)) a5) (st ++ rowsD F) = some (.nx (EX st w a2 (some (dN u)) (some (dN x)) a5') (st ++ rowsD (F.set u (S ++ ext')))) := by
  have hh := hw.hi
  have hxr := hr.2.2 x (List.mem_append_left _ hx)
  have hxl : x < w.length := hxr.lt hw hu
  obtain ⟨σ', s', e, a5', ext', rfl, rfl, h1, h2, h3⟩ := for_inv (G := gVar 5) (b := bodyX) dN
    (fun pre σ s => ∃ (a5' : Option D) (ext' : List Nat), σ = EX st w a2 (some (dN u)) (some (dN x)) a5' ∧ s = st ++ rowsD (F.set u (S ++ ext')) ∧ RowInv w u (S ++ ext') ∧ (∀ z ∈ S ++ ext, z ∈ S ++ ext') ∧ ∀ y ∈ pre, y ∈ S ++ ext') (nbr w x)
    (σ := EX st w a2 (some (dN u)) (some (dN x)) a5) (st := st ++ rowsD F) ⟨a5, ext, rfl, by
      have : F.set u (S ++ ext) = F := by rw [← hl, nbr_at (by omega)]; exact List.set_getElem_self ..
      rw [this], hr, fun _ h => h, fun _ h => nomatch h⟩ (by
    rintro pre y post σ s hxx ⟨a5', ext', rfl, rfl, h1, h2, h3⟩
    have hy : y ∈ nbr w x := by rw [← hxx]; simp
    have hlen : u < (F.set u (S ++ ext')).length := by rw [List.length_set]; omega
    have hat : (st ++ rowsD (F.set u (S ++ ext')))[st.length + u]? = some (dctI (S ++ ext')) := by
      have := rowD_at (st := st) hlen
      rwa [nbr_set (by omega), if_pos rfl] at this
    have hle := h1.le hw hu
    obtain ⟨ext2, q1, q2, q3, q4⟩ := insN_ext S ext' y
    apply step_nx rfl
    · exact st_putI (l := st.length + u) (xs := S ++ ext') (x := y) ev_c (ev_ix (ev_var rfl) (ev_var rfl) (loc_ix hu)) (ev_var rfl) hat (by omega) rfl
    · refine ⟨some (dN y), ext2, rfl, ?_, ⟨?_, q2 _ h1.2.1, fun z hz => ?_⟩, fun z hz => q2 z (h2 z hz), fun z hz => ?_⟩
      · rw [rowD_set, List.set_set, q1]
      · rw [← q1]; exact nodup_insN h1.1
      · rcases q4 z hz with h | rfl
        · exact h1.2.2 z h
        · exact .tail hxr hy
      · rcases List.mem_append.mp hz with h | h
        · exact q2 z (h3 z h)
        · have : z = y := by simpa using h
          subst this
          exact q3)
  exact ⟨ext', a5', h1, h2, h3, st_for (ev_iof (ev_ix (ev_var rfl) (ev_var rfl) (v_ix_t hxl)) rfl) e⟩
theorem turnU (w : List (List Nat)) (hw : Web w) (F : List (List Nat)) (hF : F.length = w.length) (u t : Nat) (hu : u < w.length) (h : RdP w t u (nbr F u)) (a2 a4 a5 : Option D) :
    ∃ l a4' a5', RdP w (t + 1) u l ∧ bodyU (EX st w a2 (some (dN u)) a4 a5) (st ++ rowsD F) = some (.nx (EX st w a2 (some (dN u)) a4' a5') (st ++ rowsD (F.set u l))) := by
  have hh := hw.hi
  obtain ⟨hS, hq⟩ := h
  have hSl := hS.le hw hu
  obtain ⟨σ', s', e, a4', a5', ext, rfl, rfl, h1, h2⟩ := for_inv (G := gVar 4) (b := bodyO) dN
    (fun pre σ s => ∃ (a4' a5' : Option D) (ext : List Nat), σ = EX st w a2 (some (dN u)) a4' a5' ∧ s = st ++ rowsD (F.set u (nbr F u ++ ext)) ∧ RowInv w u (nbr F u ++ ext) ∧ ∀ x ∈ pre, ∀ y ∈ nbr w x, y ∈ nbr F u ++ ext) (nbr F u)
    (σ := EX st w a2 (some (dN u)) a4 a5) (st := st ++ rowsD F) ⟨a4, a5, [], rfl, by
      rw [List.append_nil]
      have : F.set u (nbr F u) = F := by rw [nbr_at (by omega)]; exact List.set_getElem_self ..
      rw [this], by rw [List.append_nil]; exact hS, fun _ h => nomatch h⟩ (by
    rintro pre x post σ s hx ⟨b4, b5, ext, rfl, rfl, h1, h2⟩
    have hxm : x ∈ nbr F u := by rw [← hx]; simp
    have hlen : u < F.length := by omega
    obtain ⟨ext', c5, k1, k2, k3, e⟩ := turnO (st := st) w hw (F.set u (nbr F u ++ ext)) (by rw [List.length_set]; exact hF) u x hu (nbr F u) ext hxm h1 (by rw [nbr_set hlen, if_pos rfl]) a2 b5
    apply step_nx rfl
    · exact e
    · refine ⟨some (dN x), c5, ext', rfl, by rw [List.set_set], k1, fun z hz y hy => ?_⟩
      rcases List.mem_append.mp hz with hz | hz
      · exact k2 y (h2 z hz y hy)
      · have : z = x := by simpa using hz
        subst this
        exact k3 y hy)
  refine ⟨nbr F u ++ ext, a4', a5', rd_step hS hq h1 h2, ?_⟩
  exact st_for (ds := (nbr F u).map dN) (ev_iof (ev_l (ev_lkeysI (ev_ix (ev_var rfl) (ev_var rfl) (loc_ix hu)) (rowD_at (by omega)) (by omega))) rfl) e
theorem law_found_ok (w : List (List Nat)) (hw : Web w) (g : Good st) : f__law_found [webD w] st = some (.ok (webD (finds w)) st) := by
  have hh := hw.hi
  have round : ∀ (t : Nat) (F : List (List Nat)) (a2 a3 a4 a5 : Option D), F.length = w.length → (∀ i < w.length, RdP w t i (nbr F i)) → ∃ F' a3' a4' a5', F'.length = w.length ∧ (∀ i < w.length, RdP w (t + 1) i (nbr F' i)) ∧ sFor (iRange (eU' gLen (eVar 0))) (gVar 3) bodyU (EX st w a2 a3 a4 a5) (st ++ rowsD F) = some (.nx (EX st w a2 a3' a4' a5') (st ++ rowsD F')) := by
    intro t F a2 a3 a4 a5 hF hP
    obtain ⟨σ', s', e, F', a3', a4', a5', rfl, rfl, h1, h2⟩ := for_inv (G := gVar 3) (b := bodyU) dN
      (fun pre σ s => ∃ (F : List (List Nat)) (a3 a4 a5 : Option D), σ = EX st w a2 a3 a4 a5 ∧ s = st ++ rowsD F ∧ F.length = w.length ∧ ∀ i < w.length, RdP w (if i < pre.length then t + 1 else t) i (nbr F i)) (List.range w.length) (σ := EX st w a2 a3 a4 a5) (st := st ++ rowsD F) ⟨F, a3, a4, a5, rfl, rfl, hF, fun i hi => by
      show RdP w (if i < 0 then t + 1 else t) i (nbr F i)
      rw [if_neg (Nat.not_lt_zero _)]; exact hP i hi⟩ (by
      rintro pre u post σ s hx ⟨F, a3, a4, a5, rfl, rfl, hF, hP⟩
      obtain ⟨hu, hul⟩ := range_at hx
      have hPu := hP u hul
      rw [if_neg (by omega)] at hPu
      obtain ⟨l, a4', a5', hl, e⟩ := turnU (st := st) w hw F hF u t hul hPu a2 a4 a5
      apply step_nx rfl
      · exact e
      · refine ⟨F.set u l, some (dN u), a4', a5', rfl, rfl, by rw [List.length_set]; exact hF, fun i hi => ?_⟩
        rw [nbr_set (by omega)]
        by_cases q : i = u
        · rw [if_pos q, q, if_pos (by rw [List.length_append]; show u < pre.length + 1; omega)]
          exact hl
        · rw [if_neg q]
          have := hP i hi
          by_cases q2 : i < pre.length
          · rw [if_pos q2] at this
            rw [if_pos (by rw [List.length_append]; omega)]
            exact this
          · rw [if_neg q2] at this
            rw [if_neg (by rw [List.length_append]; show ¬ i < pre.length + 1; omega)]
            exact this)
    rw [List.length_range] at h2
    exact ⟨F', a3', a4', a5', h1, fun i hi => by have := h2 i hi; rwa [if_pos hi] at this, st_for (ev_irange (ev_u (ev_var rfl) v_len_t) (by omega)) e⟩
  obtain ⟨σ', s', e, F, a2, a3, a4, a5, rfl, rfl, hF, hP⟩ := for_inv (G := gVar 2) (b := sFor (iRange (eU' gLen (eVar 0))) (gVar 3) bodyU) dN
    (fun pre σ s => ∃ (F : List (List Nat)) (a2 a3 a4 a5 : Option D), σ = EX st w a2 a3 a4 a5 ∧ s = st ++ rowsD F ∧ F.length = w.length ∧ ∀ i < w.length, RdP w pre.length i (nbr F i)) (List.range w.length) (σ := EX st w none none none none) (st := st ++ rowsD ((List.range w.length).map fun i => [i])) ⟨(List.range w.length).map fun i => [i], none, none, none, none, rfl, rfl, by rw [List.length_map, List.length_range], fun i hi => by
      have e : nbr ((List.range w.length).map fun i => [i]) i = [i] := by
        show ((List.range w.length).map fun i => [i]).getD i default = _
        rw [List.getD_eq_getElem?_getD, List.getElem?_map, List.getElem?_range hi]; rfl
      rw [e]
      exact ⟨⟨by simp, by simp, fun y hy => by simp at hy; subst hy; exact .refl⟩, .inr (Nat.le_refl _)⟩⟩ (by
    rintro pre t post σ s hx ⟨F, a2, a3, a4, a5, rfl, rfl, hF, hP⟩
    obtain ⟨F', a3', a4', a5', h1, h2, e⟩ := round pre.length F (some (dN t)) a3 a4 a5 hF hP
    apply step_nx rfl
    · exact e
    · exact ⟨F', some (dN t), a3', a4', a5', rfl, rfl, h1, fun i hi => by rw [List.length_append]; exact h2 i hi⟩)
  rw [List.length_range] at hP
  have hsort : ∀ i < w.length, sortN (nbr F i) = nbr (finds w) i := fun i hi => by
    obtain ⟨h1, h2⟩ := hP i hi
    have hs : ShutL w (nbr F i) := by
      rcases h2 with h2 | h2
      · exact h2
      · have := h1.le hw hi; omega
    exact finds_row hw hi h1.1 fun y => ⟨h1.2.2 y, shut_all h1.2.1 hs⟩
  show scp _ _ = _
  refine def_own (d' := webD (finds w)) (ext := rowsD F) ?_ rfl rfl (fun k => Enc.low (f := tD (tD dN)) k _) g
  apply run_rt
  refine sq_nx (σ1 := EX st w none none none none) (s1 := st ++ rowsD ((List.range w.length).map fun i => [i])) ?_ ?_
  · have hc := ev_compO (s := iRange (eU' gLen (eVar 0))) (G := gVar 3) (e := eDct1 false (eVar 3) (eC (.bl true))) (vs := [3]) (xs := List.range w.length) (f := dN) (σ := [some (webD w), none, none, none, none, none, none]) (st := st) (s1 := st) (sg := fun i => [some (webD w), none, none, some (dN i), none, none, none]) (fun i => dctI [i]) (ev_irange (ev_u (ev_var rfl) v_len_t) (by omega)) (fun _ _ => rfl) (fun i _ s => rfl) (by rw [List.length_range]; omega)
    rw [List.length_range] at hc
    have es : rowsD ((List.range w.length).map fun i => [i]) = (List.range w.length).map fun i => dctI [i] := by unfold rowsD; rw [List.map_map]; rfl
    rw [es]
    exact (st_set (n := 1) (ev_l hc) (Nat.le_of_ble_eq_true rfl)).trans rfl
  refine sq_nx (st_for (ev_irange (ev_u (ev_var rfl) v_len_t) (by omega)) e) ?_
  refine st_ret (ev_u (ev_l (ev_comp_all (xs := List.range' st.length w.length) (f := D.loc) (q := fun k => tD dN (nbr (finds w) (k - st.length))) (sg := fun k => [some (webD w), some (locs st w.length), a2, a3, a4, a5, some (.loc k)]) (ev_iof (ev_var rfl) rfl) (fun _ _ => rfl) (fun k hk => ?_) (by rw [List.length_range']; omega))) (v_tup_l.trans ?_))
  · rw [List.mem_range'_1] at hk
    have hi : k - st.length < w.length := by omega
    have ek : k = st.length + (k - st.length) := by omega
    have hat := rowD_at (st := st) (F := F) (u := k - st.length) (by omega)
    rw [← ek] at hat
    rw [← hsort _ hi]
    refine ev_u (ev_l (ev_lsortkI (ev_var rfl) hat ?_)) v_tup_l
    have := (hP _ hi).1.le hw hi
    omega
  · show some (D.tup _) = some (D.tup ((finds w).map (tD dN)))
    congr 2
    apply List.ext_getElem
    · rw [List.length_map, List.length_map, List.length_range', finds_len]
    · intro i h1 h2
      rw [List.length_map] at h2
      rw [List.getElem_map, List.getElem_map, List.getElem_range', ← nbr_at h2]
      congr 2
      omega
end
section
open Ww
variable {st : Store}
/-! ### the law's pieces -/
abbrev EP (w : List (List Nat)) (names : List Nat) (a2 a3 a4 a5 a6 : Option D) : Mi.Env := [some (webD w), some (.lst (names.map dN)), a2, a3, a4, a5, a6, none, none]
@[reducible] def bodyN : S := (sSeq (sSet 6 (eBin oMin (eIx (eVar 1) (eVar 3)) (eIx (eVar 1) (eVar 5))))
      (sSet 1 (eL (lComp (iOf (eVar 1)) (gVar 7) tYes (eIf (tCmp dIn (eVar 7) (eL (lDisp (eCons (eIx (eVar 1) (eVar 3)) (eCons (eIx (eVar 1) (eVar 5)) eNil))))) (eVar 6) (eVar 7)) [7]))))
theorem name_step (w : List (List Nat)) (names : List Nat) (hl : names.length ≤ 9) (p o : Nat) (hp : p < names.length) (ho : o < names.length) (a2 a4 a6 : Option D) :
    bodyN (EP w names a2 (some (dN p)) a4 (some (dN o)) a6) st = some (.nx (EP w (nstep names p o) a2 (some (dN p)) a4 (some (dN o)) (some (dN (min (nm names p) (nm names o))))) st) := by
  have s6 : sSet 6 (eBin oMin (eIx (eVar 1) (eVar 3)) (eIx (eVar 1) (eVar 5))) (EP w names a2 (some (dN p)) a4 (some (dN o)) a6) st = some (.nx (EP w names a2 (some (dN p)) a4 (some (dN o)) (some (dN (min (nm names p) (nm names o))))) st) :=
    (st_set (n := 6) (ev_bin (ev_ix (ev_var rfl) (ev_var rfl) (v_ix_l hp)) (ev_ix (ev_var rfl) (ev_var rfl) (v_ix_l ho)) o_min_nn) (Nat.le_of_ble_eq_true rfl)).trans rfl
  refine sq_nx s6 ?_
  have hc : lComp (iOf (eVar 1)) (gVar 7) tYes (eIf (tCmp dIn (eVar 7) (eL (lDisp (eCons (eIx (eVar 1) (eVar 3)) (eCons (eIx (eVar 1) (eVar 5)) eNil))))) (eVar 6) (eVar 7)) [7] (EP w names a2 (some (dN p)) a4 (some (dN o)) (some (dN (min (nm names p) (nm names o))))) st = some (.ok ((nstep names p o).map dN) st) := by
    unfold nstep
    rw [List.map_map]
    refine ev_comp_all (xs := names) (f := dN) (q := dN ∘ fun x => if x = nm names p ∨ x = nm names o then min (nm names p) (nm names o) else x) (sg := fun x => [some (webD w), some (.lst (names.map dN)), a2, some (dN p), a4, some (dN o), some (dN (min (nm names p) (nm names o))), some (dN x), none]) (ev_iof (ev_var rfl) rfl) (fun _ _ => rfl) (fun x _ => ?_) (by omega)
    have t : tCmp dIn (eVar 7) (eL (lDisp (eCons (eIx (eVar 1) (eVar 3)) (eCons (eIx (eVar 1) (eVar 5)) eNil)))) [some (webD w), some (.lst (names.map dN)), a2, some (dN p), a4, some (dN o), some (dN (min (nm names p) (nm names o))), some (dN x), none] st = some (.ok (decide (x ∈ [nm names p, nm names o])) st) :=
      ev_cmp (ev_var rfl) (ev_l (ev_disp (ev_cons (ev_ix (ev_var rfl) (ev_var rfl) (v_ix_l hp)) (ev_cons (ev_ix (ev_var rfl) (ev_var rfl) (v_ix_l ho)) ev_nil)) (by rw [okLen_eq]; rfl))) (c_in_l (f := dN) (a := x) (xs := [nm names p, nm names o]) (by decide))
    show eIf _ _ _ _ _ = some (.ok (dN (if x = nm names p ∨ x = nm names o then min (nm names p) (nm names o) else x)) st)
    by_cases q : x = nm names p ∨ x = nm names o
    · rw [if_pos q]
      exact ev_if t (if_t (decide_eq_true (by simpa using q)) (ev_var rfl))
    · rw [if_neg q]
      exact ev_if t (if_f (decide_eq_false (by simpa using q)) (ev_var rfl))
  exact (st_set (n := 1) (ev_l hc) (Nat.le_of_ble_eq_true rfl)).trans rfl
def prow (z : List Nat × Nat) : List (Nat × Nat) := z.1.map fun y => (z.2, y)
theorem spread_turn (w : List (List Nat)) (hw : Web w) (done : List (Nat × Nat)) (hd : ∀ c ∈ done, c.1 < w.length ∧ c.2 < w.length) (names : List Nat) (h : Nam w done names) (a2 a3 a4 a5 a6 : Option D) :
    ∃ names' b3 b4 b5 b6, Nam w (done ++ pairs w) names' ∧ sFor (iEnum (eVar 0)) (gSet2 3 4) (sFor (iOf (eVar 4)) (gVar 5) bodyN) (EP w names a2 a3 a4 a5 a6) st = some (.nx (EP w names' a2 b3 b4 b5 b6) st) := by
  have hh := hw.hi
  obtain ⟨σ', s', e, nm', b3, b4, b5, b6, rfl, hs', hn, hdd⟩ := for_inv (G := gSet2 3 4) (b := sFor (iOf (eVar 4)) (gVar 5) bodyN) (fun z : List Nat × Nat => D.tup [dN z.2, tD dN z.1])
    (fun pre σ s => ∃ (names : List Nat) (a3 a4 a5 a6 : Option D), σ = EP w names a2 a3 a4 a5 a6 ∧ s = st ∧ Nam w (done ++ pre.flatMap prow) names ∧ ∀ c ∈ done ++ pre.flatMap prow, c.1 < w.length ∧ c.2 < w.length) w.zipIdx (σ := EP w names a2 a3 a4 a5 a6) (st := st) ⟨names, a3, a4, a5, a6, rfl, rfl, by rw [List.flatMap_nil, List.append_nil]; exact h, by rw [List.flatMap_nil, List.append_nil]; exact hd⟩ (by
    rintro pre ⟨pk, p⟩ post σ s hx ⟨names, a3, a4, a5, a6, rfl, hs, hn, hdd⟩
    have hm : (pk, p) ∈ w.zipIdx := by rw [← hx]; simp
    obtain ⟨hp, e⟩ := List.getElem?_eq_some_iff.mp (List.mem_zipIdx_iff_getElem?.mp hm)
    dsimp only at hp e
    have hpk : nbr w p = pk := by rw [nbr_at hp]; exact e
    obtain ⟨σ', s', e2, nm', c5, c6, rfl, hs', hn', hd'⟩ := for_inv (G := gVar 5) (b := bodyN) dN
      (fun p2 σ s => ∃ (names : List Nat) (a5 a6 : Option D), σ = EP w names a2 (some (dN p)) (some (tD dN pk)) a5 a6 ∧ s = st ∧ Nam w (done ++ pre.flatMap prow ++ p2.map fun y => (p, y)) names ∧ ∀ c ∈ done ++ pre.flatMap prow ++ p2.map fun y => (p, y), c.1 < w.length ∧ c.2 < w.length) pk (σ := EP w names a2 (some (dN p)) (some (tD dN pk)) a5 a6) (st := s) ⟨names, a5, a6, rfl, hs, by rw [List.map_nil, List.append_nil]; exact hn, by rw [List.map_nil, List.append_nil]; exact hdd⟩ (by
      rintro p2 y po2 σ s hx2 ⟨names, a5, a6, rfl, hs, hn, hdd⟩
      have hy : y ∈ nbr w p := by rw [hpk, ← hx2]; simp
      have hyl := hw.lt hy
      apply step_nx rfl
      · exact name_step w names (by rw [hn.len]; exact hh) p y (by rw [hn.len]; exact hp) (by rw [hn.len]; exact hyl) a2 (some (tD dN pk)) a6
      · refine ⟨nstep names p y, _, _, rfl, hs, ?_, fun c hc => ?_⟩
        · rw [List.map_append, ← List.append_assoc]
          exact nam_step hw hn hdd hy
        · rw [List.map_append, ← List.append_assoc] at hc
          rcases List.mem_append.mp hc with hc | hc
          · exact hdd c hc
          · have : c = (p, y) := by simpa using hc
            subst this
            exact ⟨hp, hyl⟩)
    apply step_nx rfl
    · exact st_for (ev_iof (ev_var rfl) rfl) e2
    · refine ⟨nm', _, _, _, _, rfl, hs', ?_, ?_⟩
      · rw [List.flatMap_append, List.flatMap_cons, List.flatMap_nil, List.append_nil, ← List.append_assoc]
        exact hn'
      · rw [List.flatMap_append, List.flatMap_cons, List.flatMap_nil, List.append_nil, ← List.append_assoc]
        exact hd')
  subst hs'
  exact ⟨nm', b3, b4, b5, b6, hn, st_for (ev_ienum (ev_var rfl) enum_t) e⟩
theorem pairs_bd {w : List (List Nat)} (hw : Web w) : ∀ c ∈ pairs w, c.1 < w.length ∧ c.2 < w.length := fun c hc => by
  obtain ⟨p, y⟩ := c
  have := mem_pairs.mp hc
  exact ⟨Web.lt1 this, hw.lt this⟩
theorem law_pieces_ok (w : List (List Nat)) (hw : Web w) (g : Good st) : f__law_pieces [webD w] st = some (.ok (webD (piecesW w)) st) := by
  have hh := hw.hi
  have hlo := hw.lo
  obtain ⟨σ', s', e, names, done, a2, a3, a4, a5, a6, rfl, hs', hn, hdd, hall⟩ := for_inv (G := gVar 2) (b := sFor (iEnum (eVar 0)) (gSet2 3 4) (sFor (iOf (eVar 4)) (gVar 5) bodyN)) dN
    (fun pre σ s => ∃ (names : List Nat) (done : List (Nat × Nat)) (a2 a3 a4 a5 a6 : Option D), σ = EP w names a2 a3 a4 a5 a6 ∧ s = st ∧ Nam w done names ∧ (∀ c ∈ done, c.1 < w.length ∧ c.2 < w.length) ∧ (pre ≠ [] → ∀ p y, y ∈ nbr w p → (p, y) ∈ done)) (List.range w.length) (σ := EP w (List.range w.length) none none none none none) (st := st) ⟨List.range w.length, [], none, none, none, none, none, rfl, rfl, nam_start, (fun c hc => nomatch hc), fun h => absurd rfl h⟩ (by
    rintro pre x post σ s hx ⟨names, done, a2, a3, a4, a5, a6, rfl, hs, hn, hdd, hall⟩
    obtain ⟨names', b3, b4, b5, b6, hn', e⟩ := spread_turn (st := s) w hw done hdd names hn (some (dN x)) a3 a4 a5 a6
    apply step_nx rfl
    · exact e
    · refine ⟨names', done ++ pairs w, _, _, _, _, _, rfl, hs, hn', fun c hc => ?_, fun _ p y hy => List.mem_append_right _ (mem_pairs.mpr hy)⟩
      rcases List.mem_append.mp hc with hc | hc
      · exact hdd c hc
      · exact pairs_bd hw c hc)
  subst hs'
  have hall' := hall (by
    intro e
    have := congrArg List.length e
    rw [List.length_range, List.length_nil] at this
    omega)
  have hiff := fun p q (hp : p < w.length) (hq : q < w.length) => nam_iff hw hn hall' hp hq
  have hlt : ∀ x ∈ names, x < w.length := fun x hx => by
    obtain ⟨i, hi, rfl⟩ := List.getElem_of_mem hx
    have hi' : i < w.length := by rw [← hn.len]; exact hi
    have := (hn.con i hi').1
    have e2 : nm names i = names[i] := by
      show names.getD i default = _
      rw [List.getD_eq_getElem?_getD, List.getElem?_eq_getElem hi]; rfl
    rwa [e2] at this
  let out := (List.range w.length).filter fun k => decide (k ∈ names)
  have ho : out.Pairwise (· < ·) := List.pairwise_lt_range.sublist List.filter_sublist
  have hom : ∀ k, k ∈ out ↔ k ∈ names := fun k => by
    show k ∈ List.filter _ _ ↔ _
    rw [List.mem_filter, List.mem_range, decide_eq_true_eq]
    exact ⟨fun h => h.2, fun h => ⟨hlt k h, h⟩⟩
  have L := nam_lots hw hn.len hiff ho hom
  have hol : out.length ≤ 9 := Nat.le_trans (List.length_filter_le ..) (by rw [List.length_range]; exact hh)
  show scp _ _ = _
  refine def_same (d' := webD (piecesW w)) (run_rt ?_) rfl rfl (fun k => Enc.low (f := tD (tD dN)) k _) g
  refine sq_nx (σ1 := EP w (List.range w.length) none none none none none) (s1 := s') ((st_set (σ := [some (webD w), none, none, none, none, none, none, none, none]) (n := 1) (ev_l (ev_lrange (ev_u (ev_var rfl) v_len_t) (by omega))) (Nat.le_of_ble_eq_true rfl)).trans rfl) ?_
  refine sq_nx (st_for (ev_irange (ev_u (ev_var rfl) v_len_t) (by omega)) e) ?_
  have hss : lSortSet (eVar 1) (EP w names a2 a3 a4 a5 a6) s' = some (.ok (out.map dN) s') := ev_lsortset (ev_var rfl) rfl (by rw [hn.len]; omega) ho hom
  have hc : lComp (iOf (eL (lSortSet (eVar 1)))) (gVar 7) tYes (eU' Mi.gTup (eL (lComp (iRange (eU' gLen (eVar 0))) (gVar 8) (tCmp dEq (eIx (eVar 1) (eVar 8)) (eVar 7)) (eVar 8) [8]))) [7] (EP w names a2 a3 a4 a5 a6) s' = some (.ok ((out.map (nlot w.length names)).map (tD dN)) s') := by
    rw [List.map_map]
    exact ev_comp_all (xs := out) (f := dN) (q := tD dN ∘ nlot w.length names) (sg := fun z => [some (webD w), some (.lst (names.map dN)), a2, a3, a4, a5, a6, some (dN z), none]) (ev_iof (ev_l hss) rfl) (fun _ _ => rfl) (fun z _ => ev_u (ev_l (ev_comp (xs := List.range w.length) (f := dN) (p := fun p => decide (nm names p = z)) (q := dN) (sg := fun p => [some (webD w), some (.lst (names.map dN)), a2, a3, a4, a5, a6, some (dN z), some (dN p)]) (ev_irange (ev_u (ev_var rfl) v_len_t) (by omega)) (fun _ _ => rfl) (fun p hp => ev_cmp (ev_ix (ev_var rfl) (ev_var rfl) (v_ix_l (by rw [hn.len]; exact List.mem_range.mp hp))) (ev_var rfl) (c_eq (f := dN) (by decide))) (fun _ _ _ => ev_var rfl) (by rw [List.length_range]; omega))) v_tup_l) (by omega)
  have hs : sortD s' ((out.map (nlot w.length names)).map (tD dN)) = some ((sortT (out.map (nlot w.length names))).map (tD dN)) := v_sortT (fun x hx e => by
    obtain ⟨p, hp, rfl⟩ := (L.mem x).mp hx
    have := pc_self hw hp
    rw [e] at this
    exact nomatch this) (by rw [List.length_map]; omega)
  refine st_ret (ev_u (ev_l (ev_lsort (ev_l hc) rfl hs)) ?_)
  rw [show piecesW w = sortT (out.map (nlot w.length names)) from Lots.sort (pieces0_lots w) L]
  exact v_tup_l
/-! ### the law's knots -/
theorem law_knots_ok (w : List (List Nat)) (hw : Web w) (g : Good st) : f__law_knots [webD w] st = some (.ok (webD (knotsW w)) st) := by
  have hh := hw.hi
  have hf := law_found_ok (st := st) w hw g
  have P := finds_pre hw
  generalize hfd : finds w = fd at hf P
  have hl : fd.length = w.length := P.len
  have hpk : ∀ i, (nbr fd i).length ≤ 9 := fun i => by
    by_cases hi : i < w.length
    · rw [← hfd, finds_nbr hi, sortN_len]; exact reach_len hw hi
    · have : nbr fd i = [] := by
        show fd.getD i default = _
        rw [List.getD_eq_getElem?_getD, List.getElem?_eq_none (by omega)]; rfl
      rw [this]; decide
  let EQ := fun (a3 a4 : Option D) => ([some (webD w), some (webD fd), some (.loc st.length), a3, a4, none] : Mi.Env)
  let SQ := fun (K : List (List Nat)) => (st ++ [O.lst (K.map (tD dN))] : Store)
  obtain ⟨σ1, s1, e1, a3, a4, rfl, rfl⟩ := for_inv (G := gVar 3) (b := (sSeq (sSet 4 (eU' Mi.gTup (eL (lComp (iOf (eIx (eVar 1) (eVar 3))) (gVar 5) (tCmp dIn (eVar 3) (eIx (eVar 1) (eVar 5))) (eVar 5) [5]))))
      (sIf (tCmp dNotIn (eVar 4) (eVar 2)) (sApp (eVar 2) (eVar 4)) sSkip))) dN
    (fun pre σ s => ∃ (a3 a4 : Option D), σ = EQ a3 a4 ∧ s = SQ (knots0 fd pre)) (List.range w.length) (σ := EQ none none) (st := SQ []) ⟨none, none, rfl, rfl⟩ (by
    rintro pre a post σ s hx ⟨a3, a4, rfl, rfl⟩
    have ha : a < fd.length := by rw [hl]; exact List.mem_range.mp (by rw [← hx]; simp)
    have hpre : pre.length ≤ 9 := by
      have := congrArg List.length hx
      rw [List.length_append, List.length_range] at this
      omega
    have hk := knots0_len fd pre
    have hc : lComp (iOf (eIx (eVar 1) (eVar 3))) (gVar 5) (tCmp dIn (eVar 3) (eIx (eVar 1) (eVar 5))) (eVar 5) [5] (EQ (some (dN a)) a4) (SQ (knots0 fd pre)) = some (.ok ((cls fd a).map dN) (SQ (knots0 fd pre))) :=
      ev_comp (xs := nbr fd a) (f := dN) (p := fun y => decide (a ∈ nbr fd y)) (q := dN) (sg := fun y => [some (webD w), some (webD fd), some (.loc st.length), some (dN a), a4, some (dN y)]) (ev_iof (ev_ix (ev_var rfl) (ev_var rfl) (v_ix_t ha)) rfl) (fun _ _ => rfl) (fun y hy => ev_cmp (ev_var rfl) (ev_ix (ev_var rfl) (ev_var rfl) (v_ix_t (by rw [hl]; exact (P.lt _ _ hy).2))) (c_in_t (f := dN) (by decide))) (fun _ _ _ => ev_var rfl) (Nat.le_trans (hpk a) (by decide))
    have e : (sSeq (sSet 4 (eU' Mi.gTup (eL (lComp (iOf (eIx (eVar 1) (eVar 3))) (gVar 5) (tCmp dIn (eVar 3) (eIx (eVar 1) (eVar 5))) (eVar 5) [5]))))
      (sIf (tCmp dNotIn (eVar 4) (eVar 2)) (sApp (eVar 2) (eVar 4)) sSkip)) (EQ (some (dN a)) a4) (SQ (knots0 fd pre)) = some (.nx (EQ (some (dN a)) (some (tD dN (cls fd a)))) (SQ (insN (knots0 fd pre) (cls fd a)))) := by
      refine sq_nx ((st_set (ev_u (ev_l hc) v_tup_l) (Nat.le_of_ble_eq_true rfl)).trans rfl) ?_
      refine st_if (ev_cmp (ev_var rfl) (ev_var rfl) (c_notin (in_loc at_last (c_in_l (f := tD dN) (a := cls fd a) (xs := knots0 fd pre) (by decide))))) ?_
      unfold insN
      by_cases h : cls fd a ∈ knots0 fd pre
      · rw [if_neg (by simp [h]), if_pos h]
        rfl
      · rw [if_pos (by simp [h]), if_neg h]
        refine st_app (l := st.length) (ev_var rfl) at_last (ev_var rfl) at_last (by rw [List.length_map]; omega) ?_
        show (st ++ _).set (st.length + 0) _ = _
        rw [set_ext]
        show _ = st ++ [O.lst (List.map (tD dN) (knots0 fd pre ++ [cls fd a]))]
        rw [List.map_append]
        rfl
    apply step_nx rfl
    · exact e
    · exact ⟨_, _, rfl, by rw [knots0_snoc]⟩)
  have hK9 := knots0_len fd (List.range w.length)
  rw [List.length_range] at hK9
  have hs : sortD (SQ (knots0 fd (List.range w.length))) ((knots0 fd (List.range w.length)).map (tD dN)) = some ((sortT (knots0 fd (List.range w.length))).map (tD dN)) := v_sortT (fun x hx e => by
    obtain ⟨p, hp, rfl⟩ := ((knots0_facts w.length).2 x).mp hx
    have := self_cls P hp
    rw [e] at this
    exact nomatch this) (by omega)
  have hkw : knotsW w = sortT (knots0 fd (List.range w.length)) := by unfold knotsW; rw [hfd]
  rw [hkw]
  show scp _ _ = _
  refine def_own (d' := webD (sortT (knots0 fd (List.range w.length)))) (ext := [O.lst ((knots0 fd (List.range w.length)).map (tD dN))]) (run_rt ?_) rfl rfl (fun k => Enc.low (f := tD (tD dN)) k _) g
  refine sq_nx ((st_set (σ := [some (webD w), none, none, none, none, none]) (n := 1) (ev_call (ev_cons (ev_var rfl) ev_nil) hf) (Nat.le_of_ble_eq_true rfl)).trans rfl) ?_
  refine sq_nx (σ1 := EQ none none) (s1 := SQ []) ((st_set (σ := [some (webD w), some (webD fd), none, none, none, none]) (n := 2) (ev_new (ev_disp ev_nil (by rw [okLen_eq]; rfl)) push_base) (Nat.le_of_ble_eq_true rfl)).trans rfl) ?_
  refine sq_nx (st_for (ev_irange (ev_u (ev_var rfl) v_len_t) (by omega)) e1) ?_
  exact st_ret (ev_u (ev_l (ev_lsort (ev_var rfl) (seq_loc at_last) hs)) v_tup_l)
/-! ### what is the same -/
theorem is_nat (k n : Nat) (g : Good st) : f__law_is (k + 1) [dN n, dN n] st = some (.ok (.bl true) st) := by
  show scp (runB 4 (b__law_is (f__law_is k)) [dN n, dN n]) st = _
  refine def_same (d' := .bl true) (run_rt ?_) rfl rfl (fun _ => rfl) g
  refine sq_nx (σ1 := [some (dN n), some (dN n), none, none]) (s1 := st) (st_if (ev_e (ev_isi2 (ev_var rfl) (isi2_of isi_tuple_int isi_list_int))) rfl) ?_
  refine st_ret (ev_eand (ev_b (ev_cmp (ev_isi (ev_var rfl) isi_bool_int) (ev_isi (ev_var rfl) isi_bool_int) (c_eq (f := bN) (a := false) (b := false) (by decide)))) (eAndK_t rfl (ev_b (ev_cmp (ev_var rfl) (ev_var rfl) ((c_eq (f := dN) (a := n) (b := n) (by decide)).trans (by rw [decide_eq_true rfl]))))))
theorem is_tup {α : Type} (f : α → D) [Enc f] (k : Nat) (xs : List α) (hl : xs.length ≤ 1000000) (h : ∀ x ∈ xs, f__law_is k [f x, f x] st = some (.ok (.bl true) st)) (g : Good st) : f__law_is (k + 1) [tD f xs, tD f xs] st = some (.ok (.bl true) st) := by
  show scp (runB 4 (b__law_is (f__law_is k)) [tD f xs, tD f xs]) st = _
  refine def_same (d' := .bl true) (run_rt ?_) rfl rfl (fun _ => rfl) g
  refine sq_rt (st_if (ev_e (ev_isi2 (ev_var rfl) (isi2_of isi_tuple_tup isi_list_tup))) (if_t (by rfl) ?_))
  have ne : ∀ b : Bool, dNe st (bN b) (bN b) = some false := fun b => (c_ne (f := bN) (a := b) (b := b) (by decide)).trans (by rw [decide_eq_true rfl]; rfl)
  refine sq_nx (σ1 := [some (tD f xs), some (tD f xs), none, none]) (s1 := st) (st_if (ev_or (ev_cmp (ev_isi (ev_var rfl) isi_tuple_tup) (ev_isi (ev_var rfl) isi_tuple_tup) (ne true)) (orK_f rfl (ev_cmp (ev_isi (ev_var rfl) isi_list_tup) (ev_isi (ev_var rfl) isi_list_tup) (ne false)))) rfl) ?_
  have hz : ∀ z ∈ xs.zip xs, ∃ x ∈ xs, z = (x, x) := fun z hz => by
    have : ∀ (ys : List α), z ∈ ys.zip ys → ∃ x ∈ ys, z = (x, x) := by
      intro ys
      induction ys with
      | nil => intro h; exact nomatch h
      | cons y ys ih =>
        intro h
        rcases List.mem_cons.mp h with rfl | h
        · exact ⟨y, .head _, rfl⟩
        · obtain ⟨x, hx, e⟩ := ih h
          exact ⟨x, .tail _ hx, e⟩
    exact this xs hz
  have hc : lComp (iZip (eVar 0) (eVar 1)) (gSet2 2 3) tYes (eCall (f__law_is k) (eCons (eVar 2) (eCons (eVar 3) eNil))) [2, 3] [some (tD f xs), some (tD f xs), none, none] st = some (.ok ((xs.zip xs).map fun _ => D.bl true) st) :=
    ev_comp_all (xs := xs.zip xs) (f := fun p => D.tup [f p.1, f p.2]) (q := fun _ => D.bl true) (sg := fun z => [some (tD f xs), some (tD f xs), some (f z.1), some (f z.2)]) (ev_izip (ev_var rfl) (ev_var rfl) zip_tt) (fun _ _ => rfl) (fun z hzz => by
      obtain ⟨x, hx, rfl⟩ := hz z hzz
      exact ev_call (ev_cons (ev_var rfl) (ev_cons (ev_var rfl) ev_nil)) (h x hx)) (by rw [List.length_zip]; omega)
  have hall : gAll st (.lst ((xs.zip xs).map fun _ => D.bl true)) = some (.bl true) := (v_all (p := fun _ => true) (xs := xs.zip xs)).trans (by rw [List.all_eq_true.mpr fun _ _ => rfl])
  refine st_ret (ev_eand (ev_b (ev_cmp (ev_u (ev_var rfl) v_len_t) (ev_u (ev_var rfl) v_len_t) (c_eq (f := dN) (by decide)))) (eAndK_t (decide_eq_true rfl) (ev_u (ev_l hc) hall)))
theorem is_web (w : List (List Nat)) (h : w.length ≤ 9) (h2 : ∀ p ∈ w, p.length ≤ 9) (g : Good st) : f__law_is 5 [webD w, webD w] st = some (.ok (.bl true) st) :=
  is_tup (tD dN) 4 w (by omega) (fun p hp => is_tup dN 3 p (by have := h2 p hp; omega) (fun n _ => is_nat 2 n g) g) g
end
section
open Ww
variable {st : Store}
theorem finds_row9 {w : List (List Nat)} (hw : Web w) (i : Nat) : (nbr (finds w) i).length ≤ 9 := by
  by_cases hi : i < w.length
  · rw [finds_nbr hi, sortN_len]; exact reach_len hw hi
  · have : nbr (finds w) i = [] := by
      show (finds w).getD i default = _
      rw [List.getD_eq_getElem?_getD, List.getElem?_eq_none (by rw [finds_len]; omega)]; rfl
    rw [this]; decide
theorem finds_mem9 {w : List (List Nat)} (hw : Web w) : ∀ p ∈ finds w, p.length ≤ 9 := fun p hp => by
  obtain ⟨i, _, rfl⟩ := mem_nbrs.mp hp
  exact finds_row9 hw i
theorem pieces_len {w : List (List Nat)} (hw : Web w) : (piecesW w).length ≤ 9 := by
  unfold piecesW
  rw [(sortT_perm _).length_eq]
  have := insN_fold_len (finds (both w)) []
  rw [finds_len, both_len, List.length_nil] at this
  have := hw.hi
  unfold pieces0
  omega
theorem pieces_mem9 {w : List (List Nat)} (hw : Web w) : ∀ p ∈ piecesW w, p.length ≤ 9 := fun p hp => by
  obtain ⟨i, _, rfl⟩ := ((pieces_lots w).mem p).mp hp
  exact finds_row9 (both_web hw) i
theorem knots_mem9 {w : List (List Nat)} (hw : Web w) : ∀ p ∈ knotsW w, p.length ≤ 9 := fun p hp => by
  obtain ⟨i, _, rfl⟩ := ((knots_kn w).mem p).mp hp
  exact Nat.le_trans (List.length_filter_le ..) (finds_row9 hw i)
theorem is_told_ok (w : List (List Nat)) (hw : Web w) (g : Good st) : f__law_is_told [webD w] st = some (.ok (.bl true) st) := by
  have hh := hw.hi
  have f1 := finds_ok (st := st) w hw g
  have f2 := law_found_ok (st := st) w hw g
  have f3 := is_web (st := st) (finds w) (by rw [finds_len]; exact hh) (finds_mem9 hw) g
  have p1 := pieces_ok (st := st) w hw g
  have p2 := law_pieces_ok (st := st) w hw g
  have p3 := is_web (st := st) (piecesW w) (pieces_len hw) (pieces_mem9 hw) g
  have k1 := knots_ok (st := st) w hw g
  have k2 := law_knots_ok (st := st) w hw g
  have k3 := is_web (st := st) (knotsW w) (knots_len hw) (knots_mem9 hw) g
  show scp _ _ = _
  refine def_same (d' := .bl true) (run_rt ?_) rfl rfl (fun _ => rfl) g
  refine sq_nx (σ1 := [some (webD w)]) (s1 := st) (st_if (ev_or (ev_not (ev_e (ev_call (ev_cons (ev_call (ev_cons (ev_var rfl) ev_nil) f1) (ev_cons (ev_call (ev_cons (ev_var rfl) ev_nil) f2) ev_nil)) f3))) (orK_f rfl (ev_not (ev_e (ev_call (ev_cons (ev_call (ev_cons (ev_var rfl) ev_nil) p1) (ev_cons (ev_call (ev_cons (ev_var rfl) ev_nil) p2) ev_nil)) p3))))) rfl) ?_
  exact st_ret (ev_call (ev_cons (ev_call (ev_cons (ev_var rfl) ev_nil) k1) (ev_cons (ev_call (ev_cons (ev_var rfl) ev_nil) k2) ev_nil)) k3)
/-! ### all webs of three -/
def othR (p : Nat) : List Nat := (List.range 3).filter fun y => !decide (y = p)
def smB (k p : Nat) : Nat := k / [1, 4, 16].getD p default % 4
def smR (k p : Nat) : List Nat := ((othR p).zipIdx.filter fun z => decide (smB k p / (1 + z.2) % 2 = 1)).map (·.1)
theorem smR_sub (k p : Nat) : (smR k p).Sublist (othR p) := by
  have := (List.filter_sublist (l := (othR p).zipIdx) (p := fun z => decide (smB k p / (1 + z.2) % 2 = 1))).map (·.1)
  rwa [List.zipIdx_map_fst] at this
theorem small_ok (k : Nat) (g : Good st) : ∃ w, Web w ∧ f__law_small [dN k] st = some (.ok (webD w) st) := by
  obtain ⟨σ', s', e, C, a2, a3, a4, rfl, rfl, hC⟩ := for_inv (G := gVar 2) (b := (sSeq (sSet 3 (eL (lComp (iRange (eC (dN 3))) (gVar 5) (tCmp dNe (eVar 5) (eVar 2)) (eVar 5) [5])))
      (sSeq (sSet 4 (eBin oMod (eU' (gU uInt) (eBin oDiv (eVar 0) (eIx (eL (lDisp (eCons (eC (dN 1)) (eCons (eC (dN 4)) (eCons (eC (dN 16)) eNil))))) (eVar 2)))) (eC (dN 4))))
      (sApp (eVar 1) (eU' Mi.gTup (eL (lComp (iEnum (eVar 3)) (gSet2 6 5) (tCmp dEq (eBin oMod (eU' (gU uInt) (eBin oDiv (eVar 4) (eBin oAdd (eC (dN 1)) (eVar 6)))) (eC (dN 2))) (eC (dN 1))) (eVar 5) [5, 6]))))))) dN
    (fun pre σ s => ∃ (C : List (List Nat)) (a2 a3 a4 : Option D), σ = [some (dN k), some (.loc st.length), a2, a3, a4, none, none] ∧ s = st ++ [O.lst (C.map (tD dN))] ∧ RowsOk 3 pre.length C) (List.range 3) (σ := [some (dN k), some (.loc st.length), none, none, none, none, none]) (st := st ++ [O.lst []]) ⟨[], none, none, none, rfl, rfl, ⟨rfl, fun i hi => absurd hi (Nat.not_lt_zero _)⟩⟩ (by
    rintro pre p post σ s hx ⟨C, a2, a3, a4, rfl, rfl, hC⟩
    obtain ⟨rfl, hp3⟩ := range_at hx
    have hCl : C.length ≤ 3 := by rw [hC.len]; omega
    have hdv : 0 < [1, 4, 16].getD pre.length default ∧ [1, 4, 16].getD pre.length default ≤ 16 := by
      have : ∀ i < 3, 0 < [1, 4, 16].getD i default ∧ [1, 4, 16].getD i default ≤ 16 := by decide
      exact this _ hp3
    have hol : (othR pre.length).length ≤ 3 := Nat.le_trans (List.length_filter_le ..) (by rw [List.length_range]; exact Nat.le_refl _)
    let s : Store := st ++ [O.lst (C.map (tD dN))]
    have e1 : sSet 3 (eL (lComp (iRange (eC (dN 3))) (gVar 5) (tCmp dNe (eVar 5) (eVar 2)) (eVar 5) [5])) [some (dN k), some (.loc st.length), some (dN pre.length), a3, a4, none, none] s = some (.nx [some (dN k), some (.loc st.length), some (dN pre.length), some (.lst ((othR pre.length).map dN)), a4, none, none] s) :=
      (st_set (n := 3) (ev_l (ev_comp (xs := List.range 3) (f := dN) (p := fun y => !decide (y = pre.length)) (q := dN) (sg := fun y => [some (dN k), some (.loc st.length), some (dN pre.length), a3, a4, some (dN y), none]) (ev_irange ev_c (by decide)) (fun _ _ => rfl) (fun y _ => ev_cmp (ev_var rfl) (ev_var rfl) (c_ne (f := dN) (by decide))) (fun _ _ _ => ev_var rfl) (by decide))) (Nat.le_of_ble_eq_true rfl)).trans rfl
    have e2 : sSet 4 (eBin oMod (eU' (gU uInt) (eBin oDiv (eVar 0) (eIx (eL (lDisp (eCons (eC (dN 1)) (eCons (eC (dN 4)) (eCons (eC (dN 16)) eNil))))) (eVar 2)))) (eC (dN 4))) [some (dN k), some (.loc st.length), some (dN pre.length), some (.lst ((othR pre.length).map dN)), a4, none, none] s = some (.nx [some (dN k), some (.loc st.length), some (dN pre.length), some (.lst ((othR pre.length).map dN)), some (dN (smB k pre.length)), none, none] s) :=
      (st_set (n := 4) (ev_bin (ev_u (ev_bin (ev_var rfl) (ev_ix (ev_l (ev_disp (ev_cons ev_c (ev_cons ev_c (ev_cons ev_c ev_nil))) (by rw [okLen_eq]; rfl))) (ev_var rfl) (v_ix_l (f := dN) (xs := [1, 4, 16]) hp3)) (o_div_nn hdv.1 (by omega))) v_int_i) ev_c (o_mod_nn (by decide))) (Nat.le_of_ble_eq_true rfl)).trans rfl
    have hc : lComp (iEnum (eVar 3)) (gSet2 6 5) (tCmp dEq (eBin oMod (eU' (gU uInt) (eBin oDiv (eVar 4) (eBin oAdd (eC (dN 1)) (eVar 6)))) (eC (dN 2))) (eC (dN 1))) (eVar 5) [5, 6] [some (dN k), some (.loc st.length), some (dN pre.length), some (.lst ((othR pre.length).map dN)), some (dN (smB k pre.length)), none, none] s = some (.ok ((smR k pre.length).map dN) s) := by
      unfold smR
      rw [List.map_map]
      exact ev_comp (xs := (othR pre.length).zipIdx) (f := fun z => D.tup [dN z.2, dN z.1]) (p := fun z => decide (smB k pre.length / (1 + z.2) % 2 = 1)) (q := dN ∘ fun z => z.1) (sg := fun z => [some (dN k), some (.loc st.length), some (dN pre.length), some (.lst ((othR pre.length).map dN)), some (dN (smB k pre.length)), some (dN z.1), some (dN z.2)]) (ev_ienum (ev_var rfl) enum_l) (fun _ _ => rfl) (fun z hz => ev_cmp (ev_bin (ev_u (ev_bin (ev_var rfl) (ev_bin ev_c (ev_var rfl) o_add_nn) (o_div_nn (by omega) (by
        obtain ⟨a, b⟩ := z
        have := (List.getElem?_eq_some_iff.mp (List.mem_zipIdx_iff_getElem?.mp hz)).1
        dsimp only at this ⊢
        omega))) v_int_i) ev_c (o_mod_nn (by decide))) ev_c (c_eq (f := dN) (by decide))) (fun _ _ _ => ev_var rfl) (by rw [List.length_zipIdx]; omega)
    have e3 : sApp (eVar 1) (eU' Mi.gTup (eL (lComp (iEnum (eVar 3)) (gSet2 6 5) (tCmp dEq (eBin oMod (eU' (gU uInt) (eBin oDiv (eVar 4) (eBin oAdd (eC (dN 1)) (eVar 6)))) (eC (dN 2))) (eC (dN 1))) (eVar 5) [5, 6]))) [some (dN k), some (.loc st.length), some (dN pre.length), some (.lst ((othR pre.length).map dN)), some (dN (smB k pre.length)), none, none] s = some (.nx [some (dN k), some (.loc st.length), some (dN pre.length), some (.lst ((othR pre.length).map dN)), some (dN (smB k pre.length)), none, none] (st ++ [O.lst ((C ++ [smR k pre.length]).map (tD dN))])) := by
      refine st_app (l := st.length) (ev_var rfl) at_last (ev_u (ev_l hc) v_tup_l) at_last (by rw [List.length_map]; omega) ?_
      show (st ++ _).set (st.length + 0) _ = _
      rw [set_ext, List.map_append]
      rfl
    apply step_nx rfl
    · exact sq_nx e1 (sq_nx e2 e3)
    · refine ⟨C ++ [smR k pre.length], _, _, _, rfl, rfl, ?_⟩
      rw [List.length_append]
      refine hC.snoc ((List.pairwise_lt_range.sublist List.filter_sublist).sublist (smR_sub k _)) fun y hy => ?_
      obtain ⟨h1, h2⟩ := List.mem_filter.mp ((smR_sub k _).subset hy)
      have h2 : ¬ y = pre.length := by simpa using h2
      exact ⟨List.mem_range.mp h1, fun q => h2 q.symm⟩)
  rw [List.length_range] at hC
  refine ⟨C, hC.web (by decide) (by decide), ?_⟩
  show scp _ _ = _
  refine def_own (d' := webD C) (ext := [O.lst (C.map (tD dN))]) (run_rt ?_) rfl rfl (fun k => Enc.low (f := tD (tD dN)) k _) g
  refine sq_nx (σ1 := [some (dN k), some (.loc st.length), none, none, none, none, none]) (s1 := st ++ [O.lst []]) ((st_set (σ := [some (dN k), none, none, none, none, none, none]) (n := 1) (ev_new (ev_disp ev_nil (by rw [okLen_eq]; rfl)) push_base) (Nat.le_of_ble_eq_true rfl)).trans rfl) ?_
  exact sq_nx (st_for (ev_irange ev_c (by decide)) e) (st_ret (ev_u (ev_var rfl) (v_tup_loc at_last)))
/-! ### people called otherwise -/
theorem name_ix {n l : Nat} {ns : List Nat} (N : Naming n ns) {s : Store} (hl : s[l]? = some (O.lst (ns.map dN))) {p : Nat} (hp : p < n) : dIx s (.loc l) (dN p) = some (dN (nm ns p)) := ix_loc hl (v_ix_l (by rw [N.len]; exact hp))
theorem gN_len (ns l : List Nat) : (gN ns l).length = l.length := by unfold gN; rw [sortN_len, List.length_map]
theorem called_ok (n l : Nat) (hn : n ≤ 9) (ns : List Nat) (N : Naming n ns) (F : List (List Nat)) (hF : F.length = n) (h9 : ∀ p, (nbr F p).length ≤ 9) (hlt : ∀ p y, y ∈ nbr F p → y < n) (hl : st[l]? = some (O.lst (ns.map dN))) (g : Good st) :
    ∃ G, Called n ns F G ∧ f__law_called [webD F, .loc l] st = some (.ok (webD G) st) := by
  obtain ⟨σ', s', e, G, a3, a4, rfl, rfl, hG, hrow⟩ := for_inv (G := gSet2 3 4) (b := (sPut (eVar 2) (eIx (eVar 1) (eVar 3)) (eU' Mi.gTup (eL (lSort (eL (lComp (iOf (eVar 4)) (gVar 5) tYes (eIx (eVar 1) (eVar 5)) [5]))))))) (fun z : List Nat × Nat => D.tup [dN z.2, tD dN z.1])
    (fun pre σ s => ∃ (G : List (List Nat)) (a3 a4 : Option D), σ = [some (webD F), some (.loc l), some (.loc st.length), a3, a4, none] ∧ s = st ++ [O.lst (G.map (tD dN))] ∧ G.length = n ∧ ∀ p < pre.length, nbr G (nm ns p) = gN ns (nbr F p)) F.zipIdx (σ := [some (webD F), some (.loc l), some (.loc st.length), none, none, none]) (st := st ++ [O.lst ((List.replicate n []).map (tD dN))]) ⟨List.replicate n [], none, none, rfl, rfl, List.length_replicate, fun p hp => absurd hp (Nat.not_lt_zero _)⟩ (by
    rintro pre ⟨pk, p⟩ post σ s hx ⟨G, a3, a4, rfl, rfl, hG, hrow⟩
    have hat : F.zipIdx[pre.length]? = some (pk, p) := by rw [← hx, List.getElem?_append_right (Nat.le_refl _), Nat.sub_self]; rfl
    rw [List.getElem?_zipIdx] at hat
    obtain ⟨x, h1, h2⟩ := Option.map_eq_some_iff.mp hat
    cases h2
    rw [Nat.zero_add] at *
    obtain ⟨hpl, hpk⟩ := List.getElem?_eq_some_iff.mp h1
    have hp : pre.length < n := by omega
    have hnb : nbr F pre.length = pk := by rw [nbr_at hpl]; exact hpk
    have hl2 : (st ++ [O.lst (G.map (tD dN))])[l]? = some (O.lst (ns.map dN)) := at_old hl
    have hpk9 := h9 pre.length
    rw [hnb] at hpk9
    have hc : lComp (iOf (eVar 4)) (gVar 5) tYes (eIx (eVar 1) (eVar 5)) [5] [some (webD F), some (.loc l), some (.loc st.length), some (dN pre.length), some (tD dN pk), none] (st ++ [O.lst (G.map (tD dN))]) = some (.ok ((pk.map (nm ns)).map dN) (st ++ [O.lst (G.map (tD dN))])) := by
      rw [List.map_map]
      exact ev_comp_all (xs := pk) (f := dN) (q := dN ∘ nm ns) (sg := fun y => [some (webD F), some (.loc l), some (.loc st.length), some (dN pre.length), some (tD dN pk), some (dN y)]) (ev_iof (ev_var rfl) rfl) (fun _ _ => rfl) (fun y hy => ev_ix (ev_var rfl) (ev_var rfl) (name_ix N hl2 (hlt pre.length y (by rw [hnb]; exact hy)))) (by omega)
    apply step_nx rfl
    · refine st_put (l := st.length) (k := nm ns pre.length) (d := tD dN (gN ns pk)) (ds := G.map (tD dN)) (ev_u (ev_l (ev_lsort (ev_l hc) rfl (v_sort (by rw [List.length_map]; omega)))) v_tup_l) (ev_var rfl) (ev_ix (ev_var rfl) (ev_var rfl) (name_ix N hl2 hp)) at_last (by rw [List.length_map, hG]; exact nm_lt N hp) rfl
    · refine ⟨G.set (nm ns pre.length) (gN ns pk), _, _, rfl, ?_, by rw [List.length_set]; exact hG, fun q hq => ?_⟩
      · show (st ++ _).set (st.length + 0) _ = _
        rw [set_ext, ← List.map_set]
        rfl
      · rw [List.length_append] at hq
        have hq : q < pre.length + 1 := hq
        rw [nbr_set (by rw [hG]; exact nm_lt N hp)]
        by_cases z : q = pre.length
        · subst z
          rw [if_pos rfl, hnb]
        · rw [if_neg fun e => z (nm_inj N (by omega) hp e)]
          exact hrow q (by omega))
  rw [List.length_zipIdx, hF] at hrow
  refine ⟨G, ⟨hG, hrow⟩, ?_⟩
  show scp _ _ = _
  refine def_own (d' := webD G) (ext := [O.lst (G.map (tD dN))]) (run_rt ?_) rfl rfl (fun k => Enc.low (f := tD (tD dN)) k _) g
  refine sq_nx (σ1 := [some (webD F), some (.loc l), some (.loc st.length), none, none, none]) (s1 := st ++ [O.lst ((List.replicate n []).map (tD dN))]) ?_ ?_
  · have hr : (List.replicate n ([] : List Nat)).map (tD dN) = List.replicate n (D.tup []) := by rw [List.map_replicate]; rfl
    rw [hr]
    exact (st_set (σ := [some (webD F), some (.loc l), none, none, none, none]) (n := 2) (ev_new (ev_lrep1 (ev_l (ev_disp (ev_cons (ev_tup ev_nil (by rw [okLen_eq]; rfl)) ev_nil) (by rw [okLen_eq]; rfl))) (ev_u (ev_var rfl) (v_len_t.trans (by rw [hF]))) rfl (by omega)) push_base) (Nat.le_of_ble_eq_true rfl)).trans rfl
  exact sq_nx (st_for (ev_ienum (ev_var rfl) enum_t) e) (st_ret (ev_u (ev_var rfl) (v_tup_loc at_last)))
theorem lots_ok (n l : Nat) (ns : List Nat) (N : Naming n ns) (K : List (List Nat)) (hK : K.length ≤ 9) (h9 : ∀ p ∈ K, p.length ≤ 9 ∧ p ≠ [] ∧ ∀ y ∈ p, y < n) (hl : st[l]? = some (O.lst (ns.map dN))) (g : Good st) :
    f__law_lots [webD K, .loc l] st = some (.ok (webD (sortT (K.map (gN ns)))) st) := by
  show scp _ _ = _
  refine def_same (d' := webD (sortT (K.map (gN ns)))) (run_rt ?_) rfl rfl (fun k => Enc.low (f := tD (tD dN)) k _) g
  have hc : lComp (iOf (eVar 0)) (gVar 3) tYes (eU' Mi.gTup (eL (lSort (eL (lComp (iOf (eVar 3)) (gVar 2) tYes (eIx (eVar 1) (eVar 2)) [2]))))) [3] [some (webD K), some (.loc l), none, none] st = some (.ok ((K.map (gN ns)).map (tD dN)) st) := by
    rw [List.map_map]
    refine ev_comp_all (xs := K) (f := tD dN) (q := tD dN ∘ gN ns) (sg := fun k => [some (webD K), some (.loc l), none, some (tD dN k)]) (ev_iof (ev_var rfl) rfl) (fun _ _ => rfl) (fun k hk => ?_) (by omega)
    obtain ⟨k1, k2, k3⟩ := h9 k hk
    have hc2 : lComp (iOf (eVar 3)) (gVar 2) tYes (eIx (eVar 1) (eVar 2)) [2] [some (webD K), some (.loc l), none, some (tD dN k)] st = some (.ok ((k.map (nm ns)).map dN) st) := by
      rw [List.map_map]
      exact ev_comp_all (xs := k) (f := dN) (q := dN ∘ nm ns) (sg := fun y => [some (webD K), some (.loc l), some (dN y), some (tD dN k)]) (ev_iof (ev_var rfl) rfl) (fun _ _ => rfl) (fun y hy => ev_ix (ev_var rfl) (ev_var rfl) (name_ix N hl (k3 y hy))) (by omega)
    exact ev_u (ev_l (ev_lsort (ev_l hc2) rfl (v_sort (by rw [List.length_map]; omega)))) v_tup_l
  have hs : sortD st ((K.map (gN ns)).map (tD dN)) = some ((sortT (K.map (gN ns))).map (tD dN)) := v_sortT (fun x hx e => by
    obtain ⟨k, hk, rfl⟩ := List.mem_map.mp hx
    have := congrArg List.length e
    rw [gN_len, List.length_nil] at this
    exact (h9 k hk).2.1 (List.length_eq_zero_iff.mp this)) (by rw [List.length_map]; omega)
  exact st_ret (ev_u (ev_l (ev_lsort (ev_l hc) rfl hs)) v_tup_l)
theorem about_ok (w : List (List Nat)) (hw : Web w) (g : Good st) : f__law_turned_about [webD w] st = some (.ok (webD (about w)) st) := by
  have hh := hw.hi
  show scp _ _ = _
  refine def_same (d' := webD (about w)) (run_rt ?_) rfl rfl (fun k => Enc.low (f := tD (tD dN)) k _) g
  refine st_ret (ev_u (ev_l (ev_comp_all (xs := List.range w.length) (f := dN) (q := fun p => tD dN ((List.range w.length).filter fun y => decide (p ∈ nbr w y))) (sg := fun p => [some (webD w), none, some (dN p)]) (ev_irange (ev_u (ev_var rfl) v_len_t) (by omega)) (fun _ _ => rfl) (fun p hp => ev_u (ev_l (ev_comp (xs := List.range w.length) (f := dN) (p := fun y => decide (p ∈ nbr w y)) (q := dN) (sg := fun y => [some (webD w), some (dN y), some (dN p)]) (ev_irange (ev_u (ev_var rfl) v_len_t) (by omega)) (fun _ _ => rfl) (fun y hy => ev_cmp (ev_var rfl) (ev_ix (ev_var rfl) (ev_var rfl) (v_ix_t (List.mem_range.mp hy))) (c_in_t (f := dN) (by decide))) (fun _ _ _ => ev_var rfl) (by rw [List.length_range]; omega))) v_tup_l) (by rw [List.length_range]; omega))) (v_tup_l.trans ?_))
  unfold about rows
  show some (D.tup _) = some (D.tup (List.map (tD dN) (List.map _ _)))
  rw [List.map_map]
  rfl
theorem kept_ok (A B : List (List Nat)) (hA : A.length ≤ 9) (hB : B.length = A.length) (h9 : ∀ p ∈ A, p.length ≤ 9) (h : ∀ p y, y ∈ nbr A p → y ∈ nbr B p) (g : Good st) : f__law_are_kept [webD A, webD B] st = some (.ok (.bl true) st) := by
  show scp _ _ = _
  refine def_same (d' := .bl true) (run_rt ?_) rfl rfl (fun _ => rfl) g
  have hc : lComp (iEnum (eVar 0)) (gSet2 3 4) tYes (eU' gAll (eL (lComp (iOf (eVar 4)) (gVar 2) tYes (eB (tCmp dIn (eVar 2) (eIx (eVar 1) (eVar 3)))) [2]))) [3, 4] [some (webD A), some (webD B), none, none, none] st = some (.ok (A.zipIdx.map fun _ => D.bl true) st) := by
    refine ev_comp_all (xs := A.zipIdx) (f := fun z : List Nat × Nat => D.tup [dN z.2, tD dN z.1]) (q := fun _ => D.bl true) (sg := fun z => [some (webD A), some (webD B), none, some (dN z.2), some (tD dN z.1)]) (ev_ienum (ev_var rfl) enum_t) (fun _ _ => rfl) (fun z hz => ?_) (by rw [List.length_zipIdx]; omega)
    obtain ⟨pk, p⟩ := z
    obtain ⟨hp, e⟩ := List.getElem?_eq_some_iff.mp (List.mem_zipIdx_iff_getElem?.mp hz)
    dsimp only at hp e
    have hnb : nbr A p = pk := by rw [nbr_at hp]; exact e
    have hpk : pk.length ≤ 9 := h9 pk (by rw [← e]; exact List.getElem_mem hp)
    have hall : (pk.all fun y => decide (y ∈ nbr B p)) = true := List.all_eq_true.mpr fun y hy => decide_eq_true (h p y (by rw [hnb]; exact hy))
    have hv := v_all (st := st) (xs := pk) (p := fun y => decide (y ∈ nbr B p))
    rw [hall] at hv
    exact ev_u (ev_l (ev_comp_all (xs := pk) (f := dN) (q := fun y => .bl (decide (y ∈ nbr B p))) (sg := fun y => [some (webD A), some (webD B), some (dN y), some (dN p), some (tD dN pk)]) (ev_iof (ev_var rfl) rfl) (fun _ _ => rfl) (fun y _ => ev_b (ev_cmp (ev_var rfl) (ev_ix (ev_var rfl) (ev_var rfl) (v_ix_t (by omega))) (c_in_t (f := dN) (by decide)))) (by omega))) hv
  have hall : gAll st (.lst (A.zipIdx.map fun _ => D.bl true)) = some (.bl true) := (v_all (p := fun _ => true) (xs := A.zipIdx)).trans (by rw [List.all_eq_true.mpr fun _ _ => rfl])
  exact st_ret (ev_u (ev_l hc) hall)
end
section
open Ww
variable {st : Store}
theorem ne_web' {s : Store} {w v : List (List Nat)} (h : w = v) : dNe s (webD w) (webD v) = some false := by
  subst h
  have := c_ne (st := s) (f := tD (tD dN)) (a := w) (b := w) (by decide)
  rwa [decide_eq_true rfl] at this
/-! ### names drawn -/
abbrev S2 (st : Store) (L N : List Nat) (b : Bag) : Store := B2 b (st ++ [O.lst (L.map dN), O.lst (N.map dN)])
theorem at_l {L N : List Nat} {b : Bag} : (S2 st L N b)[st.length + 2]? = some (O.lst (L.map dN)) := by
  show (st ++ [O.lst (L.map dN), O.lst (N.map dN)])[st.length + 0]? = _
  exact at_ext rfl
theorem at_n {L N : List Nat} {b : Bag} : (S2 st L N b)[st.length + 3]? = some (O.lst (N.map dN)) := by
  show (st ++ [O.lst (L.map dN), O.lst (N.map dN)])[st.length + 1]? = _
  exact at_ext rfl
theorem set_l {L L' N : List Nat} {b : Bag} : (S2 st L N b).set (st.length + 2) (O.lst (L'.map dN)) = S2 st L' N b := by
  show gO b :: bO b :: ((st ++ [O.lst (L.map dN), O.lst (N.map dN)]).set (st.length + 0) (O.lst (L'.map dN))) = _
  rw [set_ext]; rfl
theorem set_n {L N N' : List Nat} {b : Bag} : (S2 st L N b).set (st.length + 3) (O.lst (N'.map dN)) = S2 st L N' b := by
  show gO b :: bO b :: ((st ++ [O.lst (L.map dN), O.lst (N.map dN)]).set (st.length + 1) (O.lst (N'.map dN))) = _
  rw [set_ext]; rfl
theorem good2 (g : Good st) (L N : List Nat) : Good (st ++ [O.lst (L.map dN), O.lst (N.map dN)]) := by
  have h1 := g.snoc (o := O.lst (L.map dN)) fun n => belows_enc dN n L
  have h2 := h1.snoc (o := O.lst (N.map dN)) fun n => belows_enc dN n N
  rwa [List.append_assoc] at h2
abbrev ER (st : Store) (w : List (List Nat)) (a5 a6 a7 a8 a9 a10 : Option D) : Mi.Env := [some (.loc 1), some (webD w), some (dN w.length), some (.loc (st.length + 2)), some (.loc (st.length + 3)), a5, a6, a7, a8, a9, a10, none, none]
@[reducible] def tLeft : T := tCmp dGt (eU' gLen (eVar 3)) (eC (dN 0))
@[reducible] def bLeft : S := sApp (eVar 4) (ePopAt (eVar 3) (eCall f__law_pick (eCons (eVar 0) (eCons (eU' gLen (eVar 3)) eNil))))
theorem erase_perm : ∀ (L : List Nat) (k : Nat) (h : k < L.length), (L[k] :: L.eraseIdx k).Perm L
  | [], k, h => absurd h (Nat.not_lt_zero _)
  | x :: xs, 0, h => .refl _
  | x :: xs, k + 1, h => (List.Perm.swap ..).trans ((erase_perm xs k (Nat.lt_of_succ_lt_succ h)).cons x)
theorem erase_map : ∀ (L : List Nat) (k : Nat), (L.map dN).eraseIdx k = (L.eraseIdx k).map dN
  | [], k => rfl
  | x :: xs, 0 => rfl
  | x :: xs, k + 1 => by
    show dN x :: (xs.map dN).eraseIdx k = dN x :: (xs.eraseIdx k).map dN
    rw [erase_map xs k]
theorem wh_left (w : List (List Nat)) (g : Good st) : ∀ (m : Nat) (L N : List Nat) (b : Bag), L.length < m → L.length + N.length ≤ 9 → ∃ N' b', N'.Perm (L ++ N) ∧ whN tLeft bLeft m (ER st w none none none none none none) (S2 st L N b) = some (.nx (ER st w none none none none none none) (S2 st [] N' b'))
  | 0, L, N, b, h, _ => absurd h (Nat.not_lt_zero _)
  | m + 1, L, N, b, h, h9 => by
    have t : tLeft (ER st w none none none none none none) (S2 st L N b) = some (.ok (decide (0 < L.length)) (S2 st L N b)) := ev_cmp (ev_u (ev_var rfl) (v_len_loc (f := dN) at_l)) ev_c c_gt_nn
    by_cases hL : L = []
    · subst hL
      exact ⟨N, b, .refl _, wh_end t rfl⟩
    · have hp : 0 < L.length := List.length_pos_iff.mpr hL
      have hd := pick_ok (st := st ++ [O.lst (L.map dN), O.lst (N.map dN)]) b L.length hp (by omega) (good2 g L N)
      have hk := drwB_lt b hp
      generalize drwB b L.length = dd at hd hk
      obtain ⟨k, b1⟩ := dd
      dsimp only at hd hk
      obtain ⟨N', b', hperm, e⟩ := wh_left w g m (L.eraseIdx k) (N ++ [L[k]]) b1 (by rw [List.length_eraseIdx_of_lt hk]; omega) (by rw [List.length_eraseIdx_of_lt hk, List.length_append, List.length_cons, List.length_nil]; omega)
      refine ⟨N', b', hperm.trans ?_, wh_go t (decide_eq_true hp) ?_ e⟩
      · rw [← List.append_assoc]
        refine (List.perm_append_singleton _ _).trans ?_
        rw [← List.cons_append]
        exact (erase_perm L k hk).append_right N
      · have hpop : ePopAt (eVar 3) (eCall f__law_pick (eCons (eVar 0) (eCons (eU' gLen (eVar 3)) eNil))) (ER st w none none none none none none) (S2 st L N b) = some (.ok (dN L[k]) (S2 st (L.eraseIdx k) N b1)) := by
          refine e_popat (l := st.length + 2) (k := k) (ds0 := L.map dN) (ds := L.map dN) (ev_var rfl) at_l (ev_call (ev_cons (ev_var rfl) (ev_cons (ev_u (ev_var rfl) (v_len_loc (f := dN) at_l)) ev_nil)) hd) at_l (by rw [List.getElem?_map, List.getElem?_eq_getElem hk]; rfl) (by omega) ?_
          rw [erase_map, set_l]
        refine st_app (l := st.length + 3) (ev_var rfl) at_n hpop at_n (by rw [List.length_map]; omega) ?_
        have : N.map dN ++ [dN L[k]] = (N ++ [L[k]]).map dN := by rw [List.map_append]; rfl
        rw [this, set_n]
theorem naming_of {n : Nat} {N : List Nat} (h : N.Perm (List.range n)) : Naming n N := ⟨by rw [h.length_eq, List.length_range], h.nodup_iff.mpr List.nodup_range, fun x hx => List.mem_range.mp (h.mem_iff.mp hx)⟩
theorem web_row9 {w : List (List Nat)} (hw : Web w) (p : Nat) : (nbr w p).length ≤ 9 := hw.pl p
/-! ### what is called otherwise is the same, called otherwise -/
theorem same_ok (w : List (List Nat)) (hw : Web w) (N : List Nat) (hN : Naming w.length N) (b : Bag) (g : Good st) : ∃ v, Web v ∧
    (∀ (a6 a7 a8 a9 a10 : Option D), sSet 5 (eCall f__law_called (eCons (eVar 1) (eCons (eVar 4) eNil))) (ER st w none a6 a7 a8 a9 a10) (S2 st [] N b) = some (.nx (ER st w (some (webD v)) a6 a7 a8 a9 a10) (S2 st [] N b))) ∧
    (∀ (a6 a7 a8 a9 a10 : Option D), sIf (tOr (tCmp dNe (eCall f_finds (eCons (eVar 5) eNil)) (eCall f__law_called (eCons (eCall f_finds (eCons (eVar 1) eNil)) (eCons (eVar 4) eNil)))) (tCmp dNe (eCall f_pieces (eCons (eVar 5) eNil)) (eCall f__law_lots (eCons (eCall f_pieces (eCons (eVar 1) eNil)) (eCons (eVar 4) eNil))))) (sRet (eC (.bl false))) sSkip (ER st w (some (webD v)) a6 a7 a8 a9 a10) (S2 st [] N b) = some (.nx (ER st w (some (webD v)) a6 a7 a8 a9 a10) (S2 st [] N b))) ∧
    (∀ (a6 a7 a8 a9 a10 : Option D), sIf (tOr (tCmp dNe (eCall f_knots (eCons (eVar 5) eNil)) (eCall f__law_lots (eCons (eCall f_knots (eCons (eVar 1) eNil)) (eCons (eVar 4) eNil)))) (tCmp dNe (eCall f_knots (eCons (eCall f__law_turned_about (eCons (eVar 1) eNil)) eNil)) (eCall f_knots (eCons (eVar 1) eNil)))) (sRet (eC (.bl false))) sSkip (ER st w (some (webD v)) a6 a7 a8 a9 a10) (S2 st [] N b) = some (.nx (ER st w (some (webD v)) a6 a7 a8 a9 a10) (S2 st [] N b))) := by
  have hh := hw.hi
  have gs : Good (S2 st [] N b) := Good.bag (good2 g [] N)
  obtain ⟨v, C, e1⟩ := called_ok (st := S2 st [] N b) w.length (st.length + 3) hh N hN w rfl (web_row9 hw) (fun p y h => hw.lt h) at_n gs
  have hv := cal_web hN hw rfl C
  obtain ⟨G, CG, e2⟩ := called_ok (st := S2 st [] N b) w.length (st.length + 3) hh N hN (finds w) (finds_len w) (finds_row9 hw) (fun p y h => ((finds_pre hw).lt _ _ h).2) at_n gs
  have hG : finds v = G := Called.uniq hN (cal_finds hN hw rfl C) CG
  have f1 := finds_ok (st := S2 st [] N b) w hw gs
  have f2 := finds_ok (st := S2 st [] N b) v hv gs
  have p1 := pieces_ok (st := S2 st [] N b) w hw gs
  have p2 := pieces_ok (st := S2 st [] N b) v hv gs
  have p3 := lots_ok (st := S2 st [] N b) w.length (st.length + 3) N hN (piecesW w) (pieces_len hw) (fun p hp => by
    obtain ⟨i, hi, rfl⟩ := ((pieces_lots w).mem p).mp hp
    exact ⟨finds_row9 (both_web hw) i, fun e => (by have := pc_self hw hi; rw [e] at this; exact nomatch this), fun y hy => (pc_lt hw hy).2⟩) at_n gs
  have k1 := knots_ok (st := S2 st [] N b) w hw gs
  have k2 := knots_ok (st := S2 st [] N b) v hv gs
  have k3 := lots_ok (st := S2 st [] N b) w.length (st.length + 3) N hN (knotsW w) (knots_len hw) (fun p hp => by
    obtain ⟨i, hi, rfl⟩ := ((knots_kn w).mem p).mp hp
    exact ⟨knots_mem9 hw _ hp, cls_ne hw hi, fun y hy => ((finds_pre hw).lt _ _ (mem_cls.mp hy).1).2⟩) at_n gs
  have b1 := about_ok (st := S2 st [] N b) w hw gs
  have b2 := knots_ok (st := S2 st [] N b) (about w) (about_web hw) gs
  have cp : piecesW v = sortT ((piecesW w).map (gN N)) := cal_pieces hN hw rfl C
  have ck : knotsW v = sortT ((knotsW w).map (gN N)) := cal_knots hN hw rfl C
  have ca : knotsW (about w) = knotsW w := about_knots hw
  refine ⟨v, hv, fun a6 a7 a8 a9 a10 => ?_, fun a6 a7 a8 a9 a10 => ?_, fun a6 a7 a8 a9 a10 => ?_⟩
  · exact (st_set (n := 5) (ev_call (ev_cons (ev_var rfl) (ev_cons (ev_var rfl) ev_nil)) e1) (Nat.le_of_ble_eq_true rfl)).trans rfl
  · refine st_if (ev_or (ev_cmp (ev_call (ev_cons (ev_var rfl) ev_nil) f2) (ev_call (ev_cons (ev_call (ev_cons (ev_var rfl) ev_nil) f1) (ev_cons (ev_var rfl) ev_nil)) e2) (ne_web' hG)) (orK_f rfl ?_)) (if_f rfl st_skip)
    exact ev_cmp (ev_call (ev_cons (ev_var rfl) ev_nil) p2) (ev_call (ev_cons (ev_call (ev_cons (ev_var rfl) ev_nil) p1) (ev_cons (ev_var rfl) ev_nil)) p3) (ne_web' cp)
  · refine st_if (ev_or (ev_cmp (ev_call (ev_cons (ev_var rfl) ev_nil) k2) (ev_call (ev_cons (ev_call (ev_cons (ev_var rfl) ev_nil) k1) (ev_cons (ev_var rfl) ev_nil)) k3) (ne_web' ck)) (orK_f rfl ?_)) (if_f rfl st_skip)
    exact ev_cmp (ev_call (ev_cons (ev_call (ev_cons (ev_var rfl) ev_nil) b1) ev_nil) b2) (ev_call (ev_cons (ev_var rfl) ev_nil) k1) (ne_web' ca)
/-! ### a card more -/
theorem more_web {w : List (List Nat)} (hw : Web w) {i c : Nat} (hi : i < w.length) (hc : c < w.length) (hne : i ≠ c) {out : List Nat} (ho : out.Pairwise (· < ·)) (hm : ∀ k, k ∈ out ↔ k ∈ nbr w i ++ [c]) : Web (w.set i out) ∧ More w (w.set i out) i c := by
  have hlen : (w.set i out).length = w.length := List.length_set ..
  have hmem : ∀ k, k ∈ out ↔ k ∈ nbr w i ∨ k = c := fun k => by rw [hm]; simp
  refine ⟨web_mk hlen hw.lo hw.hi (fun j hj => ?_) fun j hj y hy => ?_, hlen, fun p y => ?_⟩
  · rw [nbr_set hi]
    split
    · exact ho
    · exact hw.pw j
  · rw [nbr_set hi] at hy
    split at hy
    · rename_i e
      subst e
      rcases (hmem y).mp hy with h | rfl
      · exact ⟨hw.lt h, hw.ne h⟩
      · exact ⟨hc, hne⟩
    · exact ⟨hw.lt hy, hw.ne hy⟩
  · rw [nbr_set hi]
    by_cases e : p = i
    · subst e
      rw [if_pos rfl, hmem]
      exact ⟨fun h => h.imp id fun h => ⟨rfl, h⟩, fun h => h.imp id fun h => h.2⟩
    · rw [if_neg e]
      exact ⟨.inl, fun h => h.elim id fun h => absurd h.1 e⟩
@[reducible] def bMore : S := (sIf (tCmp dNe (eVar 6) (eVar 7)) (sSeq (sSet 8 (eU' Mi.gTup (eL (lSortSet (eBin oAdd (eIx (eVar 1) (eVar 6)) (eTup (eCons (eVar 7) eNil)))))))
      (sSeq (sSet 9 (eBin oAdd (eBin oAdd (eSl (eVar 1) pNo (pAt (eVar 6))) (eTup (eCons (eVar 8) eNil))) (eSl (eVar 1) (pAt (eBin oAdd (eVar 6) (eC (dN 1)))) pNo)))
      (sSeq (sIf (tNot (tE (eCall f__law_are_kept (eCons (eCall f_finds (eCons (eVar 1) eNil)) (eCons (eCall f_finds (eCons (eVar 9) eNil)) eNil))))) (sRet (eC (.bl false))) sSkip)
      (sIf (tOr (tCmp dNotIn (eBin oSub (eU' gLen (eCall f_pieces (eCons (eVar 1) eNil))) (eU' gLen (eCall f_pieces (eCons (eVar 9) eNil)))) (eL (lDisp (eCons (eC (dN 0)) (eCons (eC (dN 1)) eNil))))) (tCmp dNotIn (eVar 7) (eIx (eCall f_finds (eCons (eVar 9) eNil)) (eVar 6)))) (sRet (eC (.bl false))) sSkip)))) sSkip)
theorem more_ok (w : List (List Nat)) (hw : Web w) (i c : Nat) (hi : i < w.length) (hc : c < w.length) (st0 s : Store) (gs : Good s) (a5 a10 : Option D) : ∃ a8 a9, bMore (ER st0 w a5 (some (dN i)) (some (dN c)) none none a10) s = some (.nx (ER st0 w a5 (some (dN i)) (some (dN c)) a8 a9 a10) s) := by
  have hh := hw.hi
  have t : tCmp dNe (eVar 6) (eVar 7) (ER st0 w a5 (some (dN i)) (some (dN c)) none none a10) s = some (.ok (!decide (i = c)) s) := ev_cmp (ev_var rfl) (ev_var rfl) (c_ne (f := dN) (by decide))
  by_cases q : i = c
  · exact ⟨none, none, st_if t (if_f (by simp [q]) st_skip)⟩
  · let out := (List.range w.length).filter fun k => decide (k ∈ nbr w i ++ [c])
    have ho : out.Pairwise (· < ·) := List.pairwise_lt_range.sublist List.filter_sublist
    have hm : ∀ k, k ∈ out ↔ k ∈ nbr w i ++ [c] := fun k => by
      show k ∈ List.filter _ _ ↔ _
      rw [List.mem_filter, List.mem_range, decide_eq_true_eq]
      refine ⟨fun h => h.2, fun h => ⟨?_, h⟩⟩
      rcases List.mem_append.mp h with h | h
      · exact hw.lt h
      · have : k = c := by simpa using h
        omega
    obtain ⟨hW, hM⟩ := more_web hw hi hc q ho hm
    have hz := hw.pl i
    generalize hmo : w.set i out = m at hW hM
    have hml : m.length = w.length := hM.len
    have f1 := finds_ok (st := s) w hw gs
    have f2 := finds_ok (st := s) m hW gs
    have k1 := kept_ok (st := s) (finds w) (finds m) (by rw [finds_len]; exact hh) (by rw [finds_len, finds_len, hml]) (finds_mem9 hw) (fun p y h => more_finds hw hW hM h) gs
    have p1 := pieces_ok (st := s) w hw gs
    have p2 := pieces_ok (st := s) m hW gs
    have e8 : sSet 8 (eU' Mi.gTup (eL (lSortSet (eBin oAdd (eIx (eVar 1) (eVar 6)) (eTup (eCons (eVar 7) eNil)))))) (ER st0 w a5 (some (dN i)) (some (dN c)) none none a10) s = some (.nx (ER st0 w a5 (some (dN i)) (some (dN c)) (some (tD dN out)) none a10) s) := by
      have hadd : eBin oAdd (eIx (eVar 1) (eVar 6)) (eTup (eCons (eVar 7) eNil)) (ER st0 w a5 (some (dN i)) (some (dN c)) none none a10) s = some (.ok (tD dN (nbr w i ++ [c])) s) := ev_bin (ev_ix (ev_var rfl) (ev_var rfl) (v_ix_t hi)) (ev_tup (ev_cons (ev_var rfl) ev_nil) (by rw [okLen_eq]; rfl)) (o_add_t1 (f := dN) (v := c) (by show (w.getD i default).length + 1 ≤ _; omega))
      exact (st_set (n := 8) (ev_u (ev_l (ev_lsortset (ns := nbr w i ++ [c]) hadd rfl (by rw [List.length_append]; show (w.getD i default).length + 1 < _; omega) ho hm)) v_tup_l) (Nat.le_of_ble_eq_true rfl)).trans rfl
    have e9 : sSet 9 (eBin oAdd (eBin oAdd (eSl (eVar 1) pNo (pAt (eVar 6))) (eTup (eCons (eVar 8) eNil))) (eSl (eVar 1) (pAt (eBin oAdd (eVar 6) (eC (dN 1)))) pNo)) (ER st0 w a5 (some (dN i)) (some (dN c)) (some (tD dN out)) none a10) s = some (.nx (ER st0 w a5 (some (dN i)) (some (dN c)) (some (tD dN out)) (some (webD m)) a10) s) := by
      rw [← hmo, set_split hi]
      refine (st_set (n := 9) (ev_bin (ev_bin (ev_sl (ev_var rfl) ev_pno (ev_pat (j := (i : Int)) (ev_var rfl)) v_sl_to) (ev_tup (ev_cons (ev_var rfl) ev_nil) (by rw [okLen_eq]; rfl)) (o_add_t1 (f := tD dN) (v := out) ?_)) (ev_sl (ev_var rfl) (ev_pat (j := ((i + 1 : Nat) : Int)) (ev_bin (ev_var rfl) ev_c o_add_nn)) ev_pno (v_sl_from (.inr trivial))) (o_add_tt ?_)) (Nat.le_of_ble_eq_true rfl)).trans rfl
      · rw [List.length_take]; omega
      · rw [List.length_append, List.length_take, List.length_drop]; simp; omega
    refine ⟨some (tD dN out), some (webD m), st_if t (if_t (by simp [q]) (sq_nx e8 (sq_nx e9 (sq_nx (st_if (ev_not (ev_e (ev_call (ev_cons (ev_call (ev_cons (ev_var rfl) ev_nil) f1) (ev_cons (ev_call (ev_cons (ev_var rfl) ev_nil) f2) ev_nil)) k1))) (if_f rfl st_skip)) ?_))))⟩
    have hcnt : (piecesW w).length = (piecesW m).length ∨ (piecesW w).length = (piecesW m).length + 1 := by
      rw [lots_mins hw (pieces_lots w), lots_mins hW (pieces_lots m)]
      exact more_count hw hW hM hi hc
    have hin : decide ((piecesW w).length - (piecesW m).length ∈ [0, 1]) = true := by
      refine decide_eq_true ?_
      rcases hcnt with h | h
      · rw [h, Nat.sub_self]; exact .head _
      · have : (piecesW w).length - (piecesW m).length = 1 := by omega
        rw [this]; exact .tail _ (.head _)
    have t1 : tCmp dNotIn (eBin oSub (eU' gLen (eCall f_pieces (eCons (eVar 1) eNil))) (eU' gLen (eCall f_pieces (eCons (eVar 9) eNil)))) (eL (lDisp (eCons (eC (dN 0)) (eCons (eC (dN 1)) eNil)))) (ER st0 w a5 (some (dN i)) (some (dN c)) (some (tD dN out)) (some (webD m)) a10) s = some (.ok false s) := by
      refine ev_cmp (ev_bin (ev_u (ev_call (ev_cons (ev_var rfl) ev_nil) p1) v_len_t) (ev_u (ev_call (ev_cons (ev_var rfl) ev_nil) p2) v_len_t) (o_sub_nn (by omega))) (ev_l (ev_disp (ev_cons ev_c (ev_cons ev_c ev_nil)) (by rw [okLen_eq]; rfl))) ?_
      have := c_notin (c_in_l (st := s) (f := dN) (a := (piecesW w).length - (piecesW m).length) (xs := [0, 1]) (by decide))
      refine this.trans ?_
      congr 1
      rw [Bool.not_eq_false', decide_eq_true_eq]
      exact of_decide_eq_true hin
    have t2 : tCmp dNotIn (eVar 7) (eIx (eCall f_finds (eCons (eVar 9) eNil)) (eVar 6)) (ER st0 w a5 (some (dN i)) (some (dN c)) (some (tD dN out)) (some (webD m)) a10) s = some (.ok false s) := by
      have := more_card hw hW hM hi
      have hv : dNotIn s (dN c) (tD dN (nbr (finds m) i)) = some false := (c_notin (c_in_t (st := s) (f := dN) (a := c) (xs := nbr (finds m) i) (by decide))).trans (by
        congr 1
        rw [Bool.not_eq_false', decide_eq_true_eq]
        exact this)
      exact ev_cmp (ev_var rfl) (ev_ix (ev_call (ev_cons (ev_var rfl) ev_nil) f2) (ev_var rfl) (v_ix_t (by rw [finds_len, hml]; exact hi))) hv
    exact st_if (ev_or t1 (orK_f rfl t2)) (if_f rfl st_skip)
/-! ### each knot in one piece -/
@[reducible] def bKnot : S := (sIf (tCmp dNe (eU' gLen (eL (lComp (iOf (eCall f_pieces (eCons (eVar 1) eNil))) (gVar 11) (tE (eU' gAll (eL (lComp (iOf (eVar 10)) (gVar 12) tYes (eB (tCmp dIn (eVar 12) (eVar 11))) [12])))) (eVar 11) [11]))) (eC (dN 1))) (sRet (eC (.bl false))) sSkip)
theorem knot_ok (w : List (List Nat)) (hw : Web w) (k : List Nat) (hk : k ∈ knotsW w) (st0 s : Store) (gs : Good s) (a5 a6 a7 a8 a9 : Option D) : bKnot (ER st0 w a5 a6 a7 a8 a9 (some (tD dN k))) s = some (.nx (ER st0 w a5 a6 a7 a8 a9 (some (tD dN k))) s) := by
  have p1 := pieces_ok (st := s) w hw gs
  have hpl := pieces_len hw
  have hk9 := knots_mem9 hw k hk
  have hc : lComp (iOf (eCall f_pieces (eCons (eVar 1) eNil))) (gVar 11) (tE (eU' gAll (eL (lComp (iOf (eVar 10)) (gVar 12) tYes (eB (tCmp dIn (eVar 12) (eVar 11))) [12])))) (eVar 11) [11] (ER st0 w a5 a6 a7 a8 a9 (some (tD dN k))) s = some (.ok (((piecesW w).filter fun a => k.all fun y => decide (y ∈ a)).map (tD dN)) s) :=
    ev_comp (xs := piecesW w) (f := tD dN) (p := fun a => k.all fun y => decide (y ∈ a)) (q := tD dN) (sg := fun a => [some (.loc 1), some (webD w), some (dN w.length), some (.loc (st0.length + 2)), some (.loc (st0.length + 3)), a5, a6, a7, a8, a9, some (tD dN k), some (tD dN a), none]) (ev_iof (ev_call (ev_cons (ev_var rfl) ev_nil) p1) rfl) (fun _ _ => rfl) (fun a _ => ev_e (ev_u (ev_l (ev_comp_all (xs := k) (f := dN) (q := fun y => .bl (decide (y ∈ a))) (sg := fun y => [some (.loc 1), some (webD w), some (dN w.length), some (.loc (st0.length + 2)), some (.loc (st0.length + 3)), a5, a6, a7, a8, a9, some (tD dN k), some (tD dN a), some (dN y)]) (ev_iof (ev_var rfl) rfl) (fun _ _ => rfl) (fun y _ => ev_b (ev_cmp (ev_var rfl) (ev_var rfl) (c_in_t (f := dN) (by decide)))) (by omega))) v_all)) (fun _ _ _ => ev_var rfl) (by omega)
  have h1 : ((piecesW w).filter fun a => k.all fun y => decide (y ∈ a)).length = 1 := by
    obtain ⟨p, hp, rfl⟩ := ((knots_kn w).mem k).mp hk
    exact knot_piece hw (pieces_lots w) hp
  have hn : dNe s (dN ((piecesW w).filter fun a => k.all fun y => decide (y ∈ a)).length) (dN 1) = some false := by
    rw [h1]
    exact (c_ne (f := dN) (a := 1) (b := 1) (by decide)).trans (by rw [decide_eq_true rfl]; rfl)
  exact st_if (ev_cmp (ev_u (ev_l hc) v_len_l) ev_c hn) (if_f rfl st_skip)
theorem right_ok (w : List (List Nat)) (hw : Web w) (b : Bag) (g : Good st) : ∃ b', f__law_right [.loc 1, webD w] (B2 b st) = some (.ok (.bl true) (B2 b' st)) := by
  have hh := hw.hi
  obtain ⟨N, b1, hperm, e3⟩ := wh_left (st := st) w g fuel (List.range w.length) [] b (by rw [List.length_range]; show _ < 100; omega) (by rw [List.length_range, List.length_nil]; omega)
  rw [List.append_nil] at hperm
  have hN := naming_of hperm
  obtain ⟨v, hv, s4, s5, s6⟩ := same_ok (st := st) w hw N hN b1 g
  have hd1 := pick_ok (st := st ++ [O.lst (([] : List Nat).map dN), O.lst (N.map dN)]) b1 w.length hw.lo (by omega) (good2 g [] N)
  have hl1 := drwB_lt b1 (m := w.length) hw.lo
  generalize drwB b1 w.length = d1 at hd1 hl1
  obtain ⟨i, b2⟩ := d1
  dsimp only at hd1 hl1
  have hd2 := pick_ok (st := st ++ [O.lst (([] : List Nat).map dN), O.lst (N.map dN)]) b2 w.length hw.lo (by omega) (good2 g [] N)
  have hl2 := drwB_lt b2 (m := w.length) hw.lo
  generalize drwB b2 w.length = d2 at hd2 hl2
  obtain ⟨c, b3⟩ := d2
  dsimp only at hd2 hl2
  have gs : Good (S2 st [] N b3) := Good.bag (good2 g [] N)
  have s7 : sPar 6 7 (eCons (eCall f__law_pick (eCons (eVar 0) (eCons (eVar 2) eNil))) (eCons (eCall f__law_pick (eCons (eVar 0) (eCons (eVar 2) eNil))) eNil)) (ER st w (some (webD v)) none none none none none) (S2 st [] N b1) = some (.nx (ER st w (some (webD v)) (some (dN i)) (some (dN c)) none none none) (S2 st [] N b3)) :=
    (st_par (ev_cons (ev_call (ev_cons (ev_var rfl) (ev_cons (ev_var rfl) ev_nil)) hd1) (ev_cons (ev_call (ev_cons (ev_var rfl) (ev_cons (ev_var rfl) ev_nil)) hd2) ev_nil))).trans rfl
  obtain ⟨a8, a9, s8⟩ := more_ok w hw i c hl1 hl2 st (S2 st [] N b3) gs (some (webD v)) none
  have k1 := knots_ok (st := S2 st [] N b3) w hw gs
  obtain ⟨σ', s', e9, a10, rfl, hs'⟩ := for_inv (G := gVar 10) (b := bKnot) (tD dN) (fun _ σ s => ∃ a10, σ = ER st w (some (webD v)) (some (dN i)) (some (dN c)) a8 a9 a10 ∧ s = S2 st [] N b3) (knotsW w) (σ := ER st w (some (webD v)) (some (dN i)) (some (dN c)) a8 a9 none) (st := S2 st [] N b3) ⟨none, rfl, rfl⟩ (by
    rintro pre k post σ s hx ⟨a10, rfl, rfl⟩
    apply step_nx rfl
    · exact knot_ok w hw k (by rw [← hx]; simp) st (S2 st [] N b3) gs (some (webD v)) (some (dN i)) (some (dN c)) a8 a9
    · exact ⟨_, rfl, rfl⟩)
  subst hs'
  refine ⟨b3, ?_⟩
  show scp _ _ = _
  refine def_bagO (d' := .bl true) (b' := b3) (ext := [O.lst (([] : List Nat).map dN), O.lst (N.map dN)]) (run_rt ?_) rfl rfl rfl (fun _ => rfl) g
  refine sq_nx ((st_set (σ := [some (.loc 1), some (webD w), none, none, none, none, none, none, none, none, none, none, none]) (n := 2) (ev_u (ev_var rfl) v_len_t) (Nat.le_of_ble_eq_true rfl)).trans rfl) ?_
  refine sq_nx (σ1 := ER st w none none none none none none) (s1 := S2 st (List.range w.length) [] b) ?_ ?_
  · have h1 : Push (B2 b st) (.lst ((List.range w.length).map dN)) (st.length + 2) (B2 b (st ++ [O.lst ((List.range w.length).map dN)])) := ⟨rfl, rfl⟩
    have h2 : Push (B2 b (st ++ [O.lst ((List.range w.length).map dN)])) (.lst (([] : List Nat).map dN)) (st.length + 3) (S2 st (List.range w.length) [] b) := ⟨by simp, by simp⟩
    exact (st_par (ev_cons (ev_new (ev_lrange (ev_var rfl) (by omega)) h1) (ev_cons (ev_new (ev_disp ev_nil (by rw [okLen_eq]; rfl)) h2) ev_nil))).trans rfl
  refine sq_nx (st_while e3) (sq_nx (s4 _ _ _ _ _) (sq_nx (s5 _ _ _ _ _) (sq_nx (s6 _ _ _ _ _) (sq_nx s7 (sq_nx s8 (sq_nx (st_for (ev_iof (ev_call (ev_cons (ev_var rfl) ev_nil) k1) rfl) e9) (st_ret ev_c)))))))
end
section
open Ww
abbrev V (a0 a2 a3 a4 a5 : Option D) : Mi.Env := [a0, some (.loc 1), a2, a3, a4, a5]
theorem rg_ok : ∀ f < 8, (decide ((8 : Int) ≠ 0) && (decide ((8 : Int).natAbs < 1073741824) && Builtin.Range.small ((f : Nat) : Int) ((64 : Nat) : Int) ((8 : Nat) : Int))) = true := by decide +kernel
theorem rg_len : ∀ f < 8, (Builtin.Range.rangeSize ((f : Nat) : Int) ((64 : Nat) : Int) ((8 : Nat) : Int)).toNat ≤ 8 := by decide +kernel
theorem rg_src {σ : Mi.Env} {s : Store} {a : E} {f : Nat} (hf : f < 8) (ha : a σ s = some (.ok (dN f) s)) : ∃ ks : List Nat, iRange3 a (eC (dN 64)) (eC (dN 8)) σ s = some (.ok (.fix (ks.map dN)) s) := by
  refine ⟨(List.range (Builtin.Range.rangeSize ((f : Nat) : Int) ((64 : Nat) : Int) ((8 : Nat) : Int)).toNat).map fun m => f + m * 8, ?_⟩
  unfold iRange3
  rw [bnd_ok ha, bnd_ok (ev_c), bnd_ok (ev_c)]
  refine need_ok ?_
  dsimp only
  rw [if_pos (by rw [rg3B_eq]; exact rg_ok f hf)]
  unfold rangeD3
  rw [List.map_map]
  congr 2
@[reducible] def bTold : S := (sIf (tNot (tE (eCall f__law_is_told (eCons (eVar 4) eNil)))) (sRet (eC (.bl false))) sSkip)
@[reducible] def bTurn : S := (sSeq (sSet 4 (eCall f__law_web (eCons (eVar 1) (eCons (eC (dN 9)) eNil))))
      (sIf (tOr (tNot (tE (eCall f__law_is_told (eCons (eVar 4) eNil)))) (tNot (tE (eCall f__law_right (eCons (eVar 1) (eCons (eVar 4) eNil)))))) (sRet (eC (.bl false))) sSkip))
def five : List (List (List Nat)) := [[[]], [[], []], [[1], []], [[], [0]], [[1], [0]]]
theorem five_web : ∀ w ∈ five, Web w := by
  intro w hw
  simp only [five, List.mem_cons, List.not_mem_nil, or_false] at hw
  rcases hw with rfl | rfl | rfl | rfl | rfl
  · exact web_mk (n := 1) rfl (by decide) (by decide) (by decide) (by decide)
  · exact web_mk (n := 2) rfl (by decide) (by decide) (by decide) (by decide)
  · exact web_mk (n := 2) rfl (by decide) (by decide) (by decide) (by decide)
  · exact web_mk (n := 2) rfl (by decide) (by decide) (by decide) (by decide)
  · exact web_mk (n := 2) rfl (by decide) (by decide) (by decide) (by decide)
theorem good0 : Good ([] : Store) := rfl
theorem law_ok (xs : List Int) : f_law [.rol (xs.map .int)] [] = some (.ok (.bl true) []) := by
  obtain ⟨b0, e0⟩ := bag_ok xs
  have hd8 := pick_ok (st := []) b0 8 (by decide) (by decide) good0
  have hl8 := drwB_lt b0 (m := 8) (by decide)
  generalize drwB b0 8 = d8 at hd8 hl8
  obtain ⟨f, b1⟩ := d8
  dsimp only at hd8 hl8
  have s2 : sSet 2 (eCall f__law_pick (eCons (eVar 1) (eCons (eC (dN 8)) eNil))) (V (some (.rol (xs.map .int))) none none none none) (B2 b0 []) = some (.nx (V (some (.rol (xs.map .int))) (some (dN f)) none none none) (B2 b1 [])) :=
    (st_set (n := 2) (ev_call (ev_cons (ev_var rfl) (ev_cons ev_c ev_nil)) hd8) (Nat.le_of_ble_eq_true rfl)).trans rfl
  have gp : ∀ b, Good (B2 b []) := fun b => Good.bag good0
  obtain ⟨ks, e3⟩ := rg_src (σ := V (some (.rol (xs.map .int))) (some (dN f)) none none none) (s := B2 b1 []) (a := eVar 2) hl8 (ev_var rfl)
  obtain ⟨σ1, s1, l1, a3, rfl, hs1⟩ := for_inv (G := gVar 3) (b := (sIf (tNot (tE (eCall f__law_is_told (eCons (eCall f__law_small (eCons (eVar 3) eNil)) eNil)))) (sRet (eC (.bl false))) sSkip)) dN (fun _ σ s => ∃ a3, σ = V (some (.rol (xs.map .int))) (some (dN f)) a3 none none ∧ s = B2 b1 []) ks (σ := V (some (.rol (xs.map .int))) (some (dN f)) none none none) (st := B2 b1 []) ⟨none, rfl, rfl⟩ (by
    rintro pre k post σ s _ ⟨a3, rfl, rfl⟩
    obtain ⟨w, hw, es⟩ := small_ok (st := B2 b1 []) k (gp b1)
    have et := is_told_ok (st := B2 b1 []) w hw (gp b1)
    apply step_nx rfl
    · exact st_if (ev_not (ev_e (ev_call (ev_cons (ev_call (ev_cons (ev_var rfl) ev_nil) es) ev_nil) et))) (if_f rfl st_skip)
    · exact ⟨_, rfl, rfl⟩)
  subst hs1
  obtain ⟨σ2, s2', l2, a4, rfl, hs2⟩ := for_inv (G := gVar 4) (b := bTold) webD (fun _ σ s => ∃ a4, σ = V (some (.rol (xs.map .int))) (some (dN f)) a3 a4 none ∧ s = B2 b1 []) five (σ := V (some (.rol (xs.map .int))) (some (dN f)) a3 none none) (st := B2 b1 []) ⟨none, rfl, rfl⟩ (by
    rintro pre w post σ s hx ⟨a4, rfl, rfl⟩
    have et := is_told_ok (st := B2 b1 []) w (five_web w (by rw [← hx]; simp)) (gp b1)
    apply step_nx rfl
    · exact st_if (ev_not (ev_e (ev_call (ev_cons (ev_var rfl) ev_nil) et))) (if_f rfl st_skip)
    · exact ⟨_, rfl, rfl⟩)
  subst hs2
  obtain ⟨σ3, s3', l3, b2, a4', a5, rfl, hs3⟩ := for_inv (G := gVar 5) (b := bTurn) dN (fun _ σ s => ∃ b a4 a5, σ = V (some (.rol (xs.map .int))) (some (dN f)) a3 a4 a5 ∧ s = B2 b []) (List.range 4) (σ := V (some (.rol (xs.map .int))) (some (dN f)) a3 a4 none) (st := B2 b1 []) ⟨b1, a4, none, rfl, rfl⟩ (by
    rintro pre t post σ s _ ⟨b, a4, a5, rfl, rfl⟩
    obtain ⟨w, b', hw, ew⟩ := law_web_ok (st := []) b good0
    have et := is_told_ok (st := B2 b' []) w hw (gp b')
    obtain ⟨b'', er⟩ := right_ok (st := []) w hw b' good0
    apply step_nx rfl
    · refine sq_nx ((st_set (n := 4) (ev_call (ev_cons (ev_var rfl) (ev_cons ev_c ev_nil)) ew) (Nat.le_of_ble_eq_true rfl)).trans rfl) ?_
      exact st_if (ev_or (ev_not (ev_e (ev_call (ev_cons (ev_var rfl) ev_nil) et))) (orK_f rfl (ev_not (ev_e (ev_call (ev_cons (ev_var rfl) (ev_cons (ev_var rfl) ev_nil)) er))))) (if_f rfl st_skip)
    · exact ⟨b'', _, _, rfl, rfl⟩)
  subst hs3
  show scp _ _ = _
  refine def_own (st := []) (ext := B2 b2 []) (d' := .bl true) ?_ rfl rfl (fun _ => rfl) good0
  apply run_rt
  refine sq_nx (st_set (σ := Mi.start 6 [.rol (xs.map .int)]) (s1 := B2 b0 []) (d := .loc 1) (ev_call (ev_cons (ev_var rfl) ev_nil) e0) (Nat.le_of_ble_eq_true rfl)) ?_
  refine sq_nx s2 (sq_nx (st_for e3 l1) (sq_nx (st_for (ev_iof (ev_l (ev_disp (ds := five.map webD) ?_ (by rw [okLen_eq]; rfl))) rfl) l2) (sq_nx (st_for (ev_irange (n := 4) ev_c (by decide)) l3) (st_ret ev_c))))
  have t0 : ∀ s : Store, eTup eNil (V (some (.rol (xs.map .int))) (some (dN f)) a3 none none) s = some (.ok (tD dN []) s) := fun s => ev_tup ev_nil (by rw [okLen_eq]; rfl)
  have t1 : ∀ (n : Nat) (s : Store), eTup (eCons (eC (dN n)) eNil) (V (some (.rol (xs.map .int))) (some (dN f)) a3 none none) s = some (.ok (tD dN [n]) s) := fun n s => ev_tup (ev_cons ev_c ev_nil) (by rw [okLen_eq]; rfl)
  exact ev_cons (ev_tup (ev_cons (t0 _) ev_nil) (by rw [okLen_eq]; rfl)) (ev_cons (ev_tup (ev_cons (t0 _) (ev_cons (t0 _) ev_nil)) (by rw [okLen_eq]; rfl)) (ev_cons (ev_tup (ev_cons (t1 1 _) (ev_cons (t0 _) ev_nil)) (by rw [okLen_eq]; rfl)) (ev_cons (ev_tup (ev_cons (t0 _) (ev_cons (t1 0 _) ev_nil)) (by rw [okLen_eq]; rfl)) (ev_cons (ev_tup (ev_cons (t1 1 _) (ev_cons (t1 0 _) ev_nil)) (by rw [okLen_eq]; rfl)) ev_nil))))
end
end K02
end
set_option Elab.async false
set_option linter.all false
set_option autoImplicit false
set_option maxRecDepth 100000
set_option maxHeartbeats 4000000
namespace K02
open PySem PySem.Spec PyProof.Rows L2 Mi
theorem all_mk {l : PySem.W.OpenLaw} {w : World} {K : PySem.W.Frag} {h : Heap} {mg : Str → Option Value} {fa : Addr} {f0 f1 f2 f3 f4 f5 f6 f7 f8 f9 f10 f11 f12 f13 f14 f15 f16 f17 f18 f19 f20 f21 f22 f23 f24 f25 f26 f27 f28 f29 f30 f31 : Addr} {od0 an0 od1 an1 od2 an2 od3 an3 od4 an4 od5 an5 od6 an6 od7 an7 od8 an8 od9 an9 od10 an10 od11 an11 od12 an12 od13 an13 od14 an14 od15 an15 od16 an16 od17 an17 od18 an18 od19 an19 od20 an20 od21 an21 od22 an22 od23 an23 od24 an24 od25 an25 od26 an26 od27 an27 od28 an28 od29 an29 od30 an30 od31 an31 : Option Addr} {sl0 sl1 sl2 sl3 sl4 sl5 sl6 sl7 sl8 sl9 sl10 sl11 sl12 sl13 sl14 sl15 sl16 sl17 sl18 sl19 sl20 sl21 sl22 sl23 sl24 sl25 sl26 sl27 sl28 sl29 sl30 sl31 : Array (Option Value)} {oc0 kV0 dc0 pm0 cd0 ct0 oc1 kV1 dc1 pm1 cd1 ct1 oc2 kV2 dc2 pm2 cd2 ct2 oc3 kV3 dc3 pm3 cd3 ct3 oc4 kV4 dc4 pm4 cd4 ct4 oc5 kV5 dc5 pm5 cd5 ct5 oc6 kV6 dc6 pm6 cd6 ct6 oc7 kV7 dc7 pm7 cd7 ct7 oc8 kV8 dc8 pm8 cd8 ct8 oc9 kV9 dc9 pm9 cd9 ct9 oc10 kV10 dc10 pm10 cd10 ct10 oc11 kV11 dc11 pm11 cd11 ct11 oc12 kV12 dc12 pm12 cd12 ct12 oc13 kV13 dc13 pm13 cd13 ct13 oc14 kV14 dc14 pm14 cd14 ct14 oc15 kV15 dc15 pm15 cd15 ct15 oc16 kV16 dc16 pm16 cd16 ct16 oc17 kV17 dc17 pm17 cd17 ct17 oc18 kV18 dc18 pm18 cd18 ct18 oc19 kV19 dc19 pm19 cd19 ct19 oc20 kV20 dc20 pm20 cd20 ct20 oc21 kV21 dc21 pm21 cd21 ct21 oc22 kV22 dc22 pm22 cd22 ct22 oc23 kV23 dc23 pm23 cd23 ct23 oc24 kV24 dc24 pm24 cd24 ct24 oc25 kV25 dc25 pm25 cd25 ct25 oc26 kV26 dc26 pm26 cd26 ct26 oc27 kV27 dc27 pm27 cd27 ct27 oc28 kV28 dc28 pm28 cd28 ct28 oc29 kV29 dc29 pm29 cd29 ct29 oc30 kV30 dc30 pm30 cd30 ct30 oc31 kV31 dc31 pm31 cd31 ct31 : Value} {tk_MOST_PEOPLE : Tok} {C_NoWeb : Addr} (X : K.In h) (G : h.Ns mainGlobals mg) (hfa : mg "law" = some (.ref fa))
    (a0 : PySem.W.nsIn K mainGlobals "is_integer" = some (some (.ref f0))) (l0 : K.lookup f0 = some ⟨oc0, od0, .func (PySem.W.fnOf "is_integer" "is_integer" (defArgs s_is_integer) (defBody s_is_integer) (defScope s_is_integer) .none kV0 dc0 pm0 an0 cd0 ct0), sl0⟩) (c0 : PySem.W.codeIn K cd0 "is_integer" = true) (k0 : PySem.W.keepIn K (.ref f0) = true)
    (a1 : PySem.W.nsIn K mainGlobals "is_between" = some (some (.ref f1))) (l1 : K.lookup f1 = some ⟨oc1, od1, .func (PySem.W.fnOf "is_between" "is_between" (defArgs s_is_between) (defBody s_is_between) (defScope s_is_between) .none kV1 dc1 pm1 an1 cd1 ct1), sl1⟩) (c1 : PySem.W.codeIn K cd1 "is_between" = true) (k1 : PySem.W.keepIn K (.ref f1) = true)
    (a2 : PySem.W.nsIn K mainGlobals "is_index" = some (some (.ref f2))) (l2 : K.lookup f2 = some ⟨oc2, od2, .func (PySem.W.fnOf "is_index" "is_index" (defArgs s_is_index) (defBody s_is_index) (defScope s_is_index) .none kV2 dc2 pm2 an2 cd2 ct2), sl2⟩) (c2 : PySem.W.codeIn K cd2 "is_index" = true) (k2 : PySem.W.keepIn K (.ref f2) = true)
    (a3 : PySem.W.nsIn K mainGlobals "are_ascending" = some (some (.ref f3))) (l3 : K.lookup f3 = some ⟨oc3, od3, .func (PySem.W.fnOf "are_ascending" "are_ascending" (defArgs s_are_ascending) (defBody s_are_ascending) (defScope s_are_ascending) .none kV3 dc3 pm3 an3 cd3 ct3), sl3⟩) (c3 : PySem.W.codeIn K cd3 "are_ascending" = true) (k3 : PySem.W.keepIn K (.ref f3) = true)
    (a4 : PySem.W.nsIn K mainGlobals "is_pocket" = some (some (.ref f4))) (l4 : K.lookup f4 = some ⟨oc4, od4, .func (PySem.W.fnOf "is_pocket" "is_pocket" (defArgs s_is_pocket) (defBody s_is_pocket) (defScope s_is_pocket) .none kV4 dc4 pm4 an4 cd4 ct4), sl4⟩) (c4 : PySem.W.codeIn K cd4 "is_pocket" = true) (k4 : PySem.W.keepIn K (.ref f4) = true)
    (a5 : PySem.W.nsIn K mainGlobals "is_web" = some (some (.ref f5))) (l5 : K.lookup f5 = some ⟨oc5, od5, .func (PySem.W.fnOf "is_web" "is_web" (defArgs s_is_web) (defBody s_is_web) (defScope s_is_web) .none kV5 dc5 pm5 an5 cd5 ct5), sl5⟩) (c5 : PySem.W.codeIn K cd5 "is_web" = true) (k5 : PySem.W.keepIn K (.ref f5) = true)
    (a6 : PySem.W.nsIn K mainGlobals "check_web" = some (some (.ref f6))) (l6 : K.lookup f6 = some ⟨oc6, od6, .func (PySem.W.fnOf "check_web" "check_web" (defArgs s_check_web) (defBody s_check_web) (defScope s_check_web) .none kV6 dc6 pm6 an6 cd6 ct6), sl6⟩) (c6 : PySem.W.codeIn K cd6 "check_web" = true) (k6 : PySem.W.keepIn K (.ref f6) = true)
    (a7 : PySem.W.nsIn K mainGlobals "found_from" = some (some (.ref f7))) (l7 : K.lookup f7 = some ⟨oc7, od7, .func (PySem.W.fnOf "found_from" "found_from" (defArgs s_found_from) (defBody s_found_from) (defScope s_found_from) .none kV7 dc7 pm7 an7 cd7 ct7), sl7⟩) (c7 : PySem.W.codeIn K cd7 "found_from" = true) (k7 : PySem.W.keepIn K (.ref f7) = true)
    (a8 : PySem.W.nsIn K mainGlobals "raw_finds" = some (some (.ref f8))) (l8 : K.lookup f8 = some ⟨oc8, od8, .func (PySem.W.fnOf "raw_finds" "raw_finds" (defArgs s_raw_finds) (defBody s_raw_finds) (defScope s_raw_finds) .none kV8 dc8 pm8 an8 cd8 ct8), sl8⟩) (c8 : PySem.W.codeIn K cd8 "raw_finds" = true) (k8 : PySem.W.keepIn K (.ref f8) = true)
    (a9 : PySem.W.nsIn K mainGlobals "finds" = some (some (.ref f9))) (l9 : K.lookup f9 = some ⟨oc9, od9, .func (PySem.W.fnOf "finds" "finds" (defArgs s_finds) (defBody s_finds) (defScope s_finds) .none kV9 dc9 pm9 an9 cd9 ct9), sl9⟩) (c9 : PySem.W.codeIn K cd9 "finds" = true) (k9 : PySem.W.keepIn K (.ref f9) = true)
    (a10 : PySem.W.nsIn K mainGlobals "both_ways" = some (some (.ref f10))) (l10 : K.lookup f10 = some ⟨oc10, od10, .func (PySem.W.fnOf "both_ways" "both_ways" (defArgs s_both_ways) (defBody s_both_ways) (defScope s_both_ways) .none kV10 dc10 pm10 an10 cd10 ct10), sl10⟩) (c10 : PySem.W.codeIn K cd10 "both_ways" = true) (k10 : PySem.W.keepIn K (.ref f10) = true)
    (a11 : PySem.W.nsIn K mainGlobals "tied" = some (some (.ref f11))) (l11 : K.lookup f11 = some ⟨oc11, od11, .func (PySem.W.fnOf "tied" "tied" (defArgs s_tied) (defBody s_tied) (defScope s_tied) .none kV11 dc11 pm11 an11 cd11 ct11), sl11⟩) (c11 : PySem.W.codeIn K cd11 "tied" = true) (k11 : PySem.W.keepIn K (.ref f11) = true)
    (a12 : PySem.W.nsIn K mainGlobals "raw_pieces" = some (some (.ref f12))) (l12 : K.lookup f12 = some ⟨oc12, od12, .func (PySem.W.fnOf "raw_pieces" "raw_pieces" (defArgs s_raw_pieces) (defBody s_raw_pieces) (defScope s_raw_pieces) .none kV12 dc12 pm12 an12 cd12 ct12), sl12⟩) (c12 : PySem.W.codeIn K cd12 "raw_pieces" = true) (k12 : PySem.W.keepIn K (.ref f12) = true)
    (a13 : PySem.W.nsIn K mainGlobals "pieces" = some (some (.ref f13))) (l13 : K.lookup f13 = some ⟨oc13, od13, .func (PySem.W.fnOf "pieces" "pieces" (defArgs s_pieces) (defBody s_pieces) (defScope s_pieces) .none kV13 dc13 pm13 an13 cd13 ct13), sl13⟩) (c13 : PySem.W.codeIn K cd13 "pieces" = true) (k13 : PySem.W.keepIn K (.ref f13) = true)
    (a14 : PySem.W.nsIn K mainGlobals "raw_knots" = some (some (.ref f14))) (l14 : K.lookup f14 = some ⟨oc14, od14, .func (PySem.W.fnOf "raw_knots" "raw_knots" (defArgs s_raw_knots) (defBody s_raw_knots) (defScope s_raw_knots) .none kV14 dc14 pm14 an14 cd14 ct14), sl14⟩) (c14 : PySem.W.codeIn K cd14 "raw_knots" = true) (k14 : PySem.W.keepIn K (.ref f14) = true)
    (a15 : PySem.W.nsIn K mainGlobals "knots" = some (some (.ref f15))) (l15 : K.lookup f15 = some ⟨oc15, od15, .func (PySem.W.fnOf "knots" "knots" (defArgs s_knots) (defBody s_knots) (defScope s_knots) .none kV15 dc15 pm15 an15 cd15 ct15), sl15⟩) (c15 : PySem.W.codeIn K cd15 "knots" = true) (k15 : PySem.W.keepIn K (.ref f15) = true)
    (a16 : PySem.W.nsIn K mainGlobals "_law_bag" = some (some (.ref f16))) (l16 : K.lookup f16 = some ⟨oc16, od16, .func (PySem.W.fnOf "_law_bag" "_law_bag" (defArgs s__law_bag) (defBody s__law_bag) (defScope s__law_bag) .none kV16 dc16 pm16 an16 cd16 ct16), sl16⟩) (c16 : PySem.W.codeIn K cd16 "_law_bag" = true) (k16 : PySem.W.keepIn K (.ref f16) = true)
    (a17 : PySem.W.nsIn K mainGlobals "_law_pick" = some (some (.ref f17))) (l17 : K.lookup f17 = some ⟨oc17, od17, .func (PySem.W.fnOf "_law_pick" "_law_pick" (defArgs s__law_pick) (defBody s__law_pick) (defScope s__law_pick) .none kV17 dc17 pm17 an17 cd17 ct17), sl17⟩) (c17 : PySem.W.codeIn K cd17 "_law_pick" = true) (k17 : PySem.W.keepIn K (.ref f17) = true)
    (a18 : PySem.W.nsIn K mainGlobals "_law_some" = some (some (.ref f18))) (l18 : K.lookup f18 = some ⟨oc18, od18, .func (PySem.W.fnOf "_law_some" "_law_some" (defArgs s__law_some) (defBody s__law_some) (defScope s__law_some) .none kV18 dc18 pm18 an18 cd18 ct18), sl18⟩) (c18 : PySem.W.codeIn K cd18 "_law_some" = true) (k18 : PySem.W.keepIn K (.ref f18) = true)
    (a19 : PySem.W.nsIn K mainGlobals "_law_is" = some (some (.ref f19))) (l19 : K.lookup f19 = some ⟨oc19, od19, .func (PySem.W.fnOf "_law_is" "_law_is" (defArgs s__law_is) (defBody s__law_is) (defScope s__law_is) .none kV19 dc19 pm19 an19 cd19 ct19), sl19⟩) (c19 : PySem.W.codeIn K cd19 "_law_is" = true) (k19 : PySem.W.keepIn K (.ref f19) = true)
    (a20 : PySem.W.nsIn K mainGlobals "_law_web" = some (some (.ref f20))) (l20 : K.lookup f20 = some ⟨oc20, od20, .func (PySem.W.fnOf "_law_web" "_law_web" (defArgs s__law_web) (defBody s__law_web) (defScope s__law_web) .none kV20 dc20 pm20 an20 cd20 ct20), sl20⟩) (c20 : PySem.W.codeIn K cd20 "_law_web" = true) (k20 : PySem.W.keepIn K (.ref f20) = true)
    (a21 : PySem.W.nsIn K mainGlobals "_law_found" = some (some (.ref f21))) (l21 : K.lookup f21 = some ⟨oc21, od21, .func (PySem.W.fnOf "_law_found" "_law_found" (defArgs s__law_found) (defBody s__law_found) (defScope s__law_found) .none kV21 dc21 pm21 an21 cd21 ct21), sl21⟩) (c21 : PySem.W.codeIn K cd21 "_law_found" = true) (k21 : PySem.W.keepIn K (.ref f21) = true)
    (a22 : PySem.W.nsIn K mainGlobals "_law_pieces" = some (some (.ref f22))) (l22 : K.lookup f22 = some ⟨oc22, od22, .func (PySem.W.fnOf "_law_pieces" "_law_pieces" (defArgs s__law_pieces) (defBody s__law_pieces) (defScope s__law_pieces) .none kV22 dc22 pm22 an22 cd22 ct22), sl22⟩) (c22 : PySem.W.codeIn K cd22 "_law_pieces" = true) (k22 : PySem.W.keepIn K (.ref f22) = true)
    (a23 : PySem.W.nsIn K mainGlobals "_law_knots" = some (some (.ref f23))) (l23 : K.lookup f23 = some ⟨oc23, od23, .func (PySem.W.fnOf "_law_knots" "_law_knots" (defArgs s__law_knots) (defBody s__law_knots) (defScope s__law_knots) .none kV23 dc23 pm23 an23 cd23 ct23), sl23⟩) (c23 : PySem.W.codeIn K cd23 "_law_knots" = true) (k23 : PySem.W.keepIn K (.ref f23) = true)
    (a24 : PySem.W.nsIn K mainGlobals "_law_are_kept" = some (some (.ref f24))) (l24 : K.lookup f24 = some ⟨oc24, od24, .func (PySem.W.fnOf "_law_are_kept" "_law_are_kept" (defArgs s__law_are_kept) (defBody s__law_are_kept) (defScope s__law_are_kept) .none kV24 dc24 pm24 an24 cd24 ct24), sl24⟩) (c24 : PySem.W.codeIn K cd24 "_law_are_kept" = true) (k24 : PySem.W.keepIn K (.ref f24) = true)
    (a25 : PySem.W.nsIn K mainGlobals "_law_small" = some (some (.ref f25))) (l25 : K.lookup f25 = some ⟨oc25, od25, .func (PySem.W.fnOf "_law_small" "_law_small" (defArgs s__law_small) (defBody s__law_small) (defScope s__law_small) .none kV25 dc25 pm25 an25 cd25 ct25), sl25⟩) (c25 : PySem.W.codeIn K cd25 "_law_small" = true) (k25 : PySem.W.keepIn K (.ref f25) = true)
    (a26 : PySem.W.nsIn K mainGlobals "_law_called" = some (some (.ref f26))) (l26 : K.lookup f26 = some ⟨oc26, od26, .func (PySem.W.fnOf "_law_called" "_law_called" (defArgs s__law_called) (defBody s__law_called) (defScope s__law_called) .none kV26 dc26 pm26 an26 cd26 ct26), sl26⟩) (c26 : PySem.W.codeIn K cd26 "_law_called" = true) (k26 : PySem.W.keepIn K (.ref f26) = true)
    (a27 : PySem.W.nsIn K mainGlobals "_law_lots" = some (some (.ref f27))) (l27 : K.lookup f27 = some ⟨oc27, od27, .func (PySem.W.fnOf "_law_lots" "_law_lots" (defArgs s__law_lots) (defBody s__law_lots) (defScope s__law_lots) .none kV27 dc27 pm27 an27 cd27 ct27), sl27⟩) (c27 : PySem.W.codeIn K cd27 "_law_lots" = true) (k27 : PySem.W.keepIn K (.ref f27) = true)
    (a28 : PySem.W.nsIn K mainGlobals "_law_is_told" = some (some (.ref f28))) (l28 : K.lookup f28 = some ⟨oc28, od28, .func (PySem.W.fnOf "_law_is_told" "_law_is_told" (defArgs s__law_is_told) (defBody s__law_is_told) (defScope s__law_is_told) .none kV28 dc28 pm28 an28 cd28 ct28), sl28⟩) (c28 : PySem.W.codeIn K cd28 "_law_is_told" = true) (k28 : PySem.W.keepIn K (.ref f28) = true)
    (a29 : PySem.W.nsIn K mainGlobals "_law_turned_about" = some (some (.ref f29))) (l29 : K.lookup f29 = some ⟨oc29, od29, .func (PySem.W.fnOf "_law_turned_about" "_law_turned_about" (defArgs s__law_turned_about) (defBody s__law_turned_about) (defScope s__law_turned_about) .none kV29 dc29 pm29 an29 cd29 ct29), sl29⟩) (c29 : PySem.W.codeIn K cd29 "_law_turned_about" = true) (k29 : PySem.W.keepIn K (.ref f29) = true)
    (a30 : PySem.W.nsIn K mainGlobals "_law_right" = some (some (.ref f30))) (l30 : K.lookup f30 = some ⟨oc30, od30, .func (PySem.W.fnOf "_law_right" "_law_right" (defArgs s__law_right) (defBody s__law_right) (defScope s__law_right) .none kV30 dc30 pm30 an30 cd30 ct30), sl30⟩) (c30 : PySem.W.codeIn K cd30 "_law_right" = true) (k30 : PySem.W.keepIn K (.ref f30) = true)
    (a31 : PySem.W.nsIn K mainGlobals "law" = some (some (.ref f31))) (l31 : K.lookup f31 = some ⟨oc31, od31, .func (PySem.W.fnOf "law" "law" (defArgs s_law) (defBody s_law) (defScope s_law) .none kV31 dc31 pm31 an31 cd31 ct31), sl31⟩) (c31 : PySem.W.codeIn K cd31 "law" = true) (k31 : PySem.W.keepIn K (.ref f31) = true)
    (z_abs : PySem.W.nsIn K mainGlobals "abs" = some none)
    (z_all : PySem.W.nsIn K mainGlobals "all" = some none)
    (z_bool : PySem.W.nsIn K mainGlobals "bool" = some none)
    (z_enumerate : PySem.W.nsIn K mainGlobals "enumerate" = some none)
    (z_int : PySem.W.nsIn K mainGlobals "int" = some none)
    (z_isinstance : PySem.W.nsIn K mainGlobals "isinstance" = some none)
    (z_len : PySem.W.nsIn K mainGlobals "len" = some none)
    (z_list : PySem.W.nsIn K mainGlobals "list" = some none)
    (z_min : PySem.W.nsIn K mainGlobals "min" = some none)
    (z_range : PySem.W.nsIn K mainGlobals "range" = some none)
    (z_set : PySem.W.nsIn K mainGlobals "set" = some none)
    (z_sorted : PySem.W.nsIn K mainGlobals "sorted" = some none)
    (z_sum : PySem.W.nsIn K mainGlobals "sum" = some none)
    (z_tuple : PySem.W.nsIn K mainGlobals "tuple" = some none)
    (z_zip : PySem.W.nsIn K mainGlobals "zip" = some none)
    (g_MOST_PEOPLE : PySem.W.nsIn K mainGlobals "MOST_PEOPLE" = some (some (.int 9 tk_MOST_PEOPLE)))
    (ge_NoWeb : PySem.W.nsIn K mainGlobals "NoWeb" = some (some (.ref C_NoWeb))) (ke_NoWeb : PySem.W.keepIn K (.ref C_NoWeb) = true) (xe_NoWeb : PySem.W.excIn K C_NoWeb VE "ValueError.__new__" = true) (be_NoWeb : PySem.W.subIn K (.ref C_NoWeb) (.type "BaseException") = some true) (te_NoWeb : PySem.W.typeIn K (.ref C_NoWeb) = some (.type "type"))
    : ∃ fd : FuncData, (∀ (s : Shared) (v : Value), BindsTo s fd ⟨[v], []⟩ [("script", v)]) ∧ ∀ base : Heap, K.In base → base.Ns mainGlobals mg → FnOk l.prog w K mg base (L2.CX l.prog w) 9 fa fd ["script"] (spLaw K) := by
  have e := hfa.symm.trans (PySem.W.mg_of X G a31)
  cases e
  have T : Top K mg := ⟨at_mk X G a0 l0 c0 k0 (fun _ _ _ _ _ _ us hl => match us, hl with | [_], _ => rfl),
    at_mk X G a1 l1 c1 k1 (fun _ _ _ _ _ _ us hl => match us, hl with | [_, _, _], _ => rfl),
    at_mk X G a2 l2 c2 k2 (fun _ _ _ _ _ _ us hl => match us, hl with | [_, _], _ => rfl),
    at_mk X G a3 l3 c3 k3 (fun _ _ _ _ _ _ us hl => match us, hl with | [_], _ => rfl),
    at_mk X G a4 l4 c4 k4 (fun _ _ _ _ _ _ us hl => match us, hl with | [_, _, _], _ => rfl),
    at_mk X G a5 l5 c5 k5 (fun _ _ _ _ _ _ us hl => match us, hl with | [_], _ => rfl),
    at_mk X G a6 l6 c6 k6 (fun _ _ _ _ _ _ us hl => match us, hl with | [_], _ => rfl),
    at_mk X G a7 l7 c7 k7 (fun _ _ _ _ _ _ us hl => match us, hl with | [_, _], _ => rfl),
    at_mk X G a8 l8 c8 k8 (fun _ _ _ _ _ _ us hl => match us, hl with | [_], _ => rfl),
    at_mk X G a9 l9 c9 k9 (fun _ _ _ _ _ _ us hl => match us, hl with | [_], _ => rfl),
    at_mk X G a10 l10 c10 k10 (fun _ _ _ _ _ _ us hl => match us, hl with | [_], _ => rfl),
    at_mk X G a11 l11 c11 k11 (fun _ _ _ _ _ _ us hl => match us, hl with | [_, _, _], _ => rfl),
    at_mk X G a12 l12 c12 k12 (fun _ _ _ _ _ _ us hl => match us, hl with | [_], _ => rfl),
    at_mk X G a13 l13 c13 k13 (fun _ _ _ _ _ _ us hl => match us, hl with | [_], _ => rfl),
    at_mk X G a14 l14 c14 k14 (fun _ _ _ _ _ _ us hl => match us, hl with | [_], _ => rfl),
    at_mk X G a15 l15 c15 k15 (fun _ _ _ _ _ _ us hl => match us, hl with | [_], _ => rfl),
    at_mk X G a16 l16 c16 k16 (fun _ _ _ _ _ _ us hl => match us, hl with | [_], _ => rfl),
    at_mk X G a17 l17 c17 k17 (fun _ _ _ _ _ _ us hl => match us, hl with | [_, _], _ => rfl),
    at_mk X G a18 l18 c18 k18 (fun _ _ _ _ _ _ us hl => match us, hl with | [_, _], _ => rfl),
    at_mk X G a19 l19 c19 k19 (fun _ _ _ _ _ _ us hl => match us, hl with | [_, _], _ => rfl),
    at_mk X G a20 l20 c20 k20 (fun _ _ _ _ _ _ us hl => match us, hl with | [_, _], _ => rfl),
    at_mk X G a21 l21 c21 k21 (fun _ _ _ _ _ _ us hl => match us, hl with | [_], _ => rfl),
    at_mk X G a22 l22 c22 k22 (fun _ _ _ _ _ _ us hl => match us, hl with | [_], _ => rfl),
    at_mk X G a23 l23 c23 k23 (fun _ _ _ _ _ _ us hl => match us, hl with | [_], _ => rfl),
    at_mk X G a24 l24 c24 k24 (fun _ _ _ _ _ _ us hl => match us, hl with | [_, _], _ => rfl),
    at_mk X G a25 l25 c25 k25 (fun _ _ _ _ _ _ us hl => match us, hl with | [_], _ => rfl),
    at_mk X G a26 l26 c26 k26 (fun _ _ _ _ _ _ us hl => match us, hl with | [_, _], _ => rfl),
    at_mk X G a27 l27 c27 k27 (fun _ _ _ _ _ _ us hl => match us, hl with | [_, _], _ => rfl),
    at_mk X G a28 l28 c28 k28 (fun _ _ _ _ _ _ us hl => match us, hl with | [_], _ => rfl),
    at_mk X G a29 l29 c29 k29 (fun _ _ _ _ _ _ us hl => match us, hl with | [_], _ => rfl),
    at_mk X G a30 l30 c30 k30 (fun _ _ _ _ _ _ us hl => match us, hl with | [_, _], _ => rfl),
    at_mk X G a31 l31 c31 k31 (fun _ _ _ _ _ _ us hl => match us, hl with | [_], _ => rfl),
    PySem.W.mg_none_of X G z_abs,
    PySem.W.mg_none_of X G z_all,
    PySem.W.mg_none_of X G z_bool,
    PySem.W.mg_none_of X G z_enumerate,
    PySem.W.mg_none_of X G z_int,
    PySem.W.mg_none_of X G z_isinstance,
    PySem.W.mg_none_of X G z_len,
    PySem.W.mg_none_of X G z_list,
    PySem.W.mg_none_of X G z_min,
    PySem.W.mg_none_of X G z_range,
    PySem.W.mg_none_of X G z_set,
    PySem.W.mg_none_of X G z_sorted,
    PySem.W.mg_none_of X G z_sum,
    PySem.W.mg_none_of X G z_tuple,
    PySem.W.mg_none_of X G z_zip,
    ⟨_, PySem.W.mg_of X G g_MOST_PEOPLE⟩,
    own_mk (PySem.W.mg_of X G ge_NoWeb) ke_NoWeb xe_NoWeb be_NoWeb te_NoWeb⟩
  exact ⟨_, fun s v => .of_eq rfl, fun base _ _ => law_imp law_ok (fn_law T (fun_mk (st := s_law) l31 c31 k31))⟩
end K02
open PySem PySem.W PyProof.Rows
set_option maxHeartbeats 0 in
theorem PySem.Challenge.cw_stillfound_k02_whole_finds_pieces_knots_holds : PySem.Challenge.rw_stillfound_k02_whole_finds_pieces_knots.Holds := by
  w_on; o_law; k_head; (case hw => w_witness2)
  k_fill
  refine L2.walk_of (l := PySem.Challenge.rw_stillfound_k02_whole_finds_pieces_knots) (n := 63) (k := 9) (x := "script") (CX := fun w => L2.CX PySem.Challenge.rw_stillfound_k02_whole_finds_pieces_knots.prog w) (sp := fun w => Mi.spLaw _) rfl (by decide) rfl ⟨rfl, by decide, by decide⟩ (fun w h Y => PySem.W.kIn_of Y) ?F (fun _ _ a ns hl _ hS => ⟨a, ns, rfl, hS, fun _ => rfl⟩) (fun _ _ _ _ _ h => Mi.cx_false h)
  case F =>
    intro w mg fa h KX G hmg
    refine' K02.all_mk KX G hmg ?a0 ?l0 ?c0 ?k0 ?a1 ?l1 ?c1 ?k1 ?a2 ?l2 ?c2 ?k2 ?a3 ?l3 ?c3 ?k3 ?a4 ?l4 ?c4 ?k4 ?a5 ?l5 ?c5 ?k5 ?a6 ?l6 ?c6 ?k6 ?a7 ?l7 ?c7 ?k7 ?a8 ?l8 ?c8 ?k8 ?a9 ?l9 ?c9 ?k9 ?a10 ?l10 ?c10 ?k10 ?a11 ?l11 ?c11 ?k11 ?a12 ?l12 ?c12 ?k12 ?a13 ?l13 ?c13 ?k13 ?a14 ?l14 ?c14 ?k14 ?a15 ?l15 ?c15 ?k15 ?a16 ?l16 ?c16 ?k16 ?a17 ?l17 ?c17 ?k17 ?a18 ?l18 ?c18 ?k18 ?a19 ?l19 ?c19 ?k19 ?a20 ?l20 ?c20 ?k20 ?a21 ?l21 ?c21 ?k21 ?a22 ?l22 ?c22 ?k22 ?a23 ?l23 ?c23 ?k23 ?a24 ?l24 ?c24 ?k24 ?a25 ?l25 ?c25 ?k25 ?a26 ?l26 ?c26 ?k26 ?a27 ?l27 ?c27 ?k27 ?a28 ?l28 ?c28 ?k28 ?a29 ?l29 ?c29 ?k29 ?a30 ?l30 ?c30 ?k30 ?a31 ?l31 ?c31 ?k31 ?z_abs ?z_all ?z_bool ?z_enumerate ?z_int ?z_isinstance ?z_len ?z_list ?z_min ?z_range ?z_set ?z_sorted ?z_sum ?z_tuple ?z_zip ?g_MOST_PEOPLE ?ge_NoWeb ?ke_NoWeb ?xe_NoWeb ?be_NoWeb ?te_NoWeb
    (case a0 => k_is); (case l0 => k_is); (case c0 => k_is); (case k0 => k_is); (case a1 => k_is); (case l1 => k_is); (case c1 => k_is); (case k1 => k_is); (case a2 => k_is); (case l2 => k_is); (case c2 => k_is); (case k2 => k_is); (case a3 => k_is); (case l3 => k_is); (case c3 => k_is); (case k3 => k_is); (case a4 => k_is); (case l4 => k_is); (case c4 => k_is); (case k4 => k_is); (case a5 => k_is); (case l5 => k_is); (case c5 => k_is); (case k5 => k_is); (case a6 => k_is); (case l6 => k_is); (case c6 => k_is); (case k6 => k_is); (case a7 => k_is); (case l7 => k_is); (case c7 => k_is); (case k7 => k_is); (case a8 => k_is); (case l8 => k_is); (case c8 => k_is); (case k8 => k_is); (case a9 => k_is); (case l9 => k_is); (case c9 => k_is); (case k9 => k_is); (case a10 => k_is); (case l10 => k_is); (case c10 => k_is); (case k10 => k_is); (case a11 => k_is); (case l11 => k_is); (case c11 => k_is); (case k11 => k_is); (case a12 => k_is); (case l12 => k_is); (case c12 => k_is); (case k12 => k_is); (case a13 => k_is); (case l13 => k_is); (case c13 => k_is); (case k13 => k_is); (case a14 => k_is); (case l14 => k_is); (case c14 => k_is); (case k14 => k_is); (case a15 => k_is); (case l15 => k_is); (case c15 => k_is); (case k15 => k_is); (case a16 => k_is); (case l16 => k_is); (case c16 => k_is); (case k16 => k_is); (case a17 => k_is); (case l17 => k_is); (case c17 => k_is); (case k17 => k_is); (case a18 => k_is); (case l18 => k_is); (case c18 => k_is); (case k18 => k_is); (case a19 => k_is); (case l19 => k_is); (case c19 => k_is); (case k19 => k_is); (case a20 => k_is); (case l20 => k_is); (case c20 => k_is); (case k20 => k_is); (case a21 => k_is); (case l21 => k_is); (case c21 => k_is); (case k21 => k_is); (case a22 => k_is); (case l22 => k_is); (case c22 => k_is); (case k22 => k_is); (case a23 => k_is); (case l23 => k_is); (case c23 => k_is); (case k23 => k_is); (case a24 => k_is); (case l24 => k_is); (case c24 => k_is); (case k24 => k_is); (case a25 => k_is); (case l25 => k_is); (case c25 => k_is); (case k25 => k_is); (case a26 => k_is); (case l26 => k_is); (case c26 => k_is); (case k26 => k_is); (case a27 => k_is); (case l27 => k_is); (case c27 => k_is); (case k27 => k_is); (case a28 => k_is); (case l28 => k_is); (case c28 => k_is); (case k28 => k_is); (case a29 => k_is); (case l29 => k_is); (case c29 => k_is); (case k29 => k_is); (case a30 => k_is); (case l30 => k_is); (case c30 => k_is); (case k30 => k_is); (case a31 => k_is); (case l31 => k_is); (case c31 => k_is); (case k31 => k_is); (case z_abs => k_is); (case z_all => k_is); (case z_bool => k_is); (case z_enumerate => k_is); (case z_int => k_is); (case z_isinstance => k_is); (case z_len => k_is); (case z_list => k_is); (case z_min => k_is); (case z_range => k_is); (case z_set => k_is); (case z_sorted => k_is); (case z_sum => k_is); (case z_tuple => k_is); (case z_zip => k_is); (case g_MOST_PEOPLE => k_is); (case ge_NoWeb => k_is); (case ke_NoWeb => k_is); (case xe_NoWeb => k_exc); (case be_NoWeb => k_is); (case te_NoWeb => k_is)
