import PyProof.Rows.All
import Wide.All
import OpenK.AllK
import Wide.FinOn
import HandS.ForExc
import KE.SortData
import KE.DataEq
import HandS.IsInst
import HandS.Zip
import HandS.TupAny
import HandS.Conv
import HandS.Iter
import HandS.Comp
import KE.DataAny
import KE.GoesEnum
import HandS.ExcOwn
import HandS.WordsExc
import HandS.ForMost
import PySem.Challenge.RW_stillfound_k45_whole_people_who_vanish
set_option Elab.async false
set_option linter.all false
set_option autoImplicit false
/-! Mi: the plain meaning of the programs' Python: values as trees, a store of the objects that change, one combinator a construct. -/
namespace Mi
open PySem

/-- values: tuples, lists that nobody changes, dicts that nobody changes as trees; what is changed at a place of the store -/
inductive D where
  | non | bl (b : Bool) | int (i : Int) | str (x : Str) | tup (ds : List D) | lst (ds : List D) | rol (ds : List D) | dct (kvs : List (Sum Int Str × D)) | loc (l : Nat) | fn (x : Str)
  deriving Inhabited
abbrev Key := Sum Int Str
inductive O where
  | lst (ds : List D)
  | ins (c : Str) (fs : List (Str × D))
abbrev Store := List O
structure Exn where
  name : Str
  arg : Option D
inductive R (α : Type) where
  | ok (a : α) (st : Store)
  | ex (x : Exn) (st : Store)
abbrev M (α : Type) := Store → Option (R α)
section
variable {α β : Type}
def ret (a : α) : M α := fun st => some (.ok a st)
def stuck : M α := fun _ => none
def bnd (m : M α) (f : α → M β) : M β := fun st => match m st with
  | some (.ok a st1) => f a st1
  | some (.ex x st1) => some (.ex x st1)
  | none => none
def bndN {α β : Type} (m : M α) (f : α → M β) : M β := fun st => match m st with
  | some (.ok a st1) => f a st1
  | _ => none
def need (o : Option α) : M α := fun st => match o with
  | some a => some (.ok a st)
  | none => none
/-- what only looks at the store -/
def look (f : Store → Option α) : M α := fun st => match f st with
  | some a => some (.ok a st)
  | none => none
end
abbrev Env := List (Option D)
abbrev E := Env → M D
abbrev EL := Env → M (List D)
abbrev T := Env → M Bool

/-! ### data of a value -/
mutual
def py (ρ : Nat → Option PyData) : D → Option PyData
  | .non => some .none
  | .bl b => some (.bool b)
  | .int i => some (.int i)
  | .str x => some (.str x)
  | .tup ds => match pys ρ ds with | some xs => some (.tuple xs) | none => none
  | .lst ds => match pys ρ ds with | some xs => some (.list xs) | none => none
  | .rol _ => none
  | .dct _ => none
  | .loc l => ρ l
  | .fn _ => none
def pys (ρ : Nat → Option PyData) : List D → Option (List PyData)
  | [] => some []
  | d :: ds => match py ρ d with
    | some x => (match pys ρ ds with | some xs => some (x :: xs) | none => none)
    | none => none
end
def locPy (st : Store) : Nat → Nat → Option PyData
  | 0, _ => none
  | n + 1, l => match st[l]? with
    | some (.lst ds) => (match pys (locPy st n) ds with | some xs => some (.list xs) | none => none)
    | _ => none
def toPy (st : Store) (d : D) : Option PyData := py (locPy st 8) d
def toPys (st : Store) (ds : List D) : Option (List PyData) := pys (locPy st 8) ds

/-! ### operations on values -/
def seqOf (st : Store) : D → Option (List D)
  | .tup ds => some ds
  | .lst ds => some ds
  | .rol ds => some ds
  | .loc l => match st[l]? with | some (.lst ds) => some ds | _ => none
  | _ => none
/-- the items of a list -/
def lstOf (st : Store) : D → Option (List D)
  | .lst ds => some ds
  | .loc l => match st[l]? with | some (.lst ds) => some ds | _ => none
  | _ => none
def okLen (n : Nat) : Bool := decide (n ≤ 16777216)

def dEq (st : Store) (x y : D) : Option Bool := match toPy st x, toPy st y with
  | some a, some b => if min a.depth b.depth ≤ 64 then some (PyData.eqv a b) else none
  | _, _ => none
def dNe (st : Store) (x y : D) : Option Bool := match dEq st x y with
  | some b => some (!b)
  | none => none
def dIn (st : Store) (x c : D) : Option Bool := match toPy st x, seqOf st c with
  | some a, some ds => (match toPys st ds with
    | some xs => if min (PyData.depthAll xs) a.depth ≤ 64 then some (xs.any fun y => PyData.eqv y a) else none
    | none => none)
  | _, _ => none
def dNotIn (st : Store) (x c : D) : Option Bool := match dIn st x c with
  | some b => some (!b)
  | none => none
def dLt (_ : Store) : D → D → Option Bool
  | .int i, .int j => some (decide (i < j))
  | _, _ => none
def dLe (_ : Store) : D → D → Option Bool
  | .int i, .int j => some (decide (i ≤ j))
  | _, _ => none
def dGt (_ : Store) : D → D → Option Bool
  | .int i, .int j => some (decide (j < i))
  | _, _ => none
def dGe (_ : Store) : D → D → Option Bool
  | .int i, .int j => some (decide (j ≤ i))
  | _, _ => none
def isNon : D → Bool
  | .non => true
  | _ => false
/-- is None, is not None -/
def dIsN (_ : Store) (x _ : D) : Option Bool := some (isNon x)
def dIsNotN (_ : Store) (x _ : D) : Option Bool := some (!isNon x)

abbrev Op := D → D → Option D
def oAdd : Op
  | .int i, .int j => some (.int (i + j))
  | .str x, .str y => if okLen (x.length + y.length) then some (.str (x ++ y)) else none
  | .tup xs, .tup ys => if okLen (xs.length + ys.length) then some (.tup (xs ++ ys)) else none
  | _, _ => none
def oSub : Op
  | .int i, .int j => some (.int (i - j))
  | _, _ => none
def mulOk (i j : Int) : Bool := (decide (-(2 ^ 64) < i) && decide (i < 2 ^ 64)) || (decide (-(2 ^ 64) < j) && decide (j < 2 ^ 64))
def oMul : Op
  | .int i, .int j => if mulOk i j then some (.int (i * j)) else none
  | _, _ => none
def divOk (j : Int) : Bool := decide (0 < j) && decide (j < 1073741824)
def oDiv : Op
  | .int i, .int j => if divOk j then some (.int (i / j)) else none
  | _, _ => none
def oMod : Op
  | .int i, .int j => if decide (0 < j) then some (.int (i % j)) else none
  | _, _ => none
def powOk (i j : Int) : Bool := decide (0 ≤ j) && decide (j ≤ 1000000) && decide (i.natAbs < 2 ^ 64)
def oPow : Op
  | .int i, .int j => if powOk i j then some (.int (i ^ j.toNat)) else none
  | _, _ => none

def tyOf (st : Store) : D → Option String
  | .non => some "NoneType"
  | .bl _ => some "bool"
  | .int _ => some "int"
  | .str _ => some "str"
  | .tup _ => some "tuple"
  | .lst _ => some "list"
  | .rol _ => some "list"
  | .dct _ => some "dict"
  | .loc l => match st[l]? with | some (.lst _) => some "list" | _ => none
  | .fn _ => none
def isa (t c : String) : Bool := (t == c) || (t == "bool" && c == "int")
def dIsi (c : String) (st : Store) (d : D) : Option Bool := match tyOf st d with
  | some t => some (isa t c)
  | none => none
def dIsi2 (c c' : String) (st : Store) (d : D) : Option Bool := match tyOf st d with
  | some t => some (isa t c || isa t c')
  | none => none

/-- s[i] -/
def itemAt (ds : List D) (i : Int) : Option D := L2.atI ds i
def dIx (st : Store) (x i : D) : Option D := match seqOf st x, i with
  | some ds, .int k => itemAt ds k
  | _, _ => none
/-- s[lo:hi] -/
def cutD (ds : List D) (lo hi : Option Int) : List D := (ds.drop (HT.sIx ds.length 0 lo)).take (HT.sIx ds.length ds.length hi - HT.sIx ds.length 0 lo)
def dSl (st : Store) (x : D) (lo hi : Option Int) : Option D := match x with
  | .tup ds => some (.tup (cutD ds lo hi))
  | .lst ds => some (.lst (cutD ds lo hi))
  | .rol ds => some (.lst (cutD ds lo hi))
  | .loc l => (match st[l]? with | some (.lst ds) => some (.lst (cutD ds lo hi)) | _ => none)
  | _ => none
def dLen (st : Store) (d : D) : Option Int := match d with
  | .str x => if okLen x.length then some (x.length : Int) else none
  | _ => match seqOf st d with
    | some ds => some (ds.length : Int)
    | none => none

/-! ### expressions -/
def eVar (i : Nat) : E := fun σ => need (match σ[i]? with | some (some d) => some d | _ => none)
def eC (d : D) : E := fun _ => ret d
def eNil : EL := fun _ => ret []
def eCons (a : E) (r : EL) : EL := fun σ => bnd (a σ) fun d => bnd (r σ) fun ds => ret (d :: ds)
def eTup (es : EL) : E := fun σ => bnd (es σ) fun ds => if okLen ds.length then ret (.tup ds) else stuck
def eBin (f : Op) (a b : E) : E := fun σ => bnd (a σ) fun x => bnd (b σ) fun y => need (f x y)
def eNeg (a : E) : E := fun σ => bnd (a σ) fun x => need (match x with | .int i => some (.int (-i)) | _ => none)
abbrev Cmp := Store → D → D → Option Bool
def tCmp (f : Cmp) (a b : E) : T := fun σ => bnd (a σ) fun x => bnd (b σ) fun y => look fun st => f st x y
def tChain (f g : Cmp) (a b c : E) : T := fun σ => bnd (a σ) fun x => bnd (b σ) fun y => bnd (look fun st => f st x y) fun k => if k then bnd (c σ) fun z => look fun st => g st y z else ret false
def tAnd (a b : T) : T := fun σ => bnd (a σ) fun x => if x then b σ else ret false
def tOr (a b : T) : T := fun σ => bnd (a σ) fun x => if x then ret true else b σ
def tNot (a : T) : T := fun σ => bnd (a σ) fun x => ret (!x)
/-- a truth value as a value, and back -/
def eB (t : T) : E := fun σ => bnd (t σ) fun b => ret (.bl b)
def tE (e : E) : T := fun σ => bnd (e σ) fun d => need (match d with | .bl b => some b | _ => none)
def eIf (t : T) (a b : E) : E := fun σ => bnd (t σ) fun c => if c then a σ else b σ
def eAnd (a b : E) : E := fun σ => bnd (a σ) fun x => match x with | .bl true => b σ | .bl false => ret (.bl false) | _ => stuck
def eOr (a b : E) : E := fun σ => bnd (a σ) fun x => match x with | .bl false => b σ | .bl true => ret (.bl true) | _ => stuck
def eIsi (c : String) (a : E) : E := fun σ => bnd (a σ) fun x => look fun st => match dIsi c st x with | some b => some (.bl b) | none => none
def eIsi2 (c c' : String) (a : E) : E := fun σ => bnd (a σ) fun x => look fun st => match dIsi2 c c' st x with | some b => some (.bl b) | none => none
def eIx (a b : E) : E := fun σ => bnd (a σ) fun x => bnd (b σ) fun i => look fun st => dIx st x i
abbrev P := Env → M (Option Int)
def pNo : P := fun _ => ret none
def pAt (a : E) : P := fun σ => bnd (a σ) fun x => need (match x with | .int i => some (some i) | _ => none)
def eSl (a : E) (lo hi : P) : E := fun σ => bnd (a σ) fun x => bnd (lo σ) fun l => bnd (hi σ) fun h => look fun st => dSl st x l h
def eLen (a : E) : E := fun σ => bnd (a σ) fun x => look fun st => match dLen st x with | some n => some (.int n) | none => none
/-- a call of a one-place built-in on a value -/
def eU (f : D → Option D) (a : E) : E := fun σ => bnd (a σ) fun x => need (f x)
def uAbs : D → Option D
  | .int i => some (.int (if i < 0 then -i else i))
  | _ => none
def uInt : D → Option D
  | .int i => some (.int i)
  | .bl b => some (.int (if b then 1 else 0))
  | _ => none
def oMin : Op
  | .int i, .int j => some (.int (if j < i then j else i))
  | _, _ => none
def oMax : Op
  | .int i, .int j => some (.int (if j > i then j else i))
  | _, _ => none
/-- a new list: by value, or at a new place of the store -/
def eL (es : EL) : E := fun σ => bnd (es σ) fun ds => ret (.lst ds)
def eNew (es : EL) : E := fun σ => bnd (es σ) fun ds => fun st => some (.ok (.loc st.length) (st ++ [.lst ds]))
/-- a display [a, b, ..] -/
def lDisp (es : EL) : EL := fun σ => bnd (es σ) fun ds => if okLen ds.length then ret ds else stuck
/-- the items of a list, a tuple as a new list: list(x) -/
def lOf (a : E) : EL := fun σ => bnd (a σ) fun x => look fun st => seqOf st x
/-- two lists, one behind the other -/
def lAdd (a b : E) : EL := fun σ => bnd (a σ) fun x => bnd (b σ) fun y => look fun st => match lstOf st x, lstOf st y with
  | some xs, some ys => if okLen (xs.length + ys.length) then some (xs ++ ys) else none
  | _, _ => none
/-- tuple(x) -/
def eTupOf (a : E) : E := fun σ => bnd (a σ) fun x => look fun st => match x with
  | .tup ds => some (.tup ds)
  | _ => (match lstOf st x with | some ds => some (.tup ds) | none => none)
def blsOf : List D → Option (List Bool)
  | [] => some []
  | .bl b :: ds => (match blsOf ds with | some bs => some (b :: bs) | none => none)
  | _ :: _ => none
def allBl (ds : List D) : Option Bool := match blsOf ds with | some bs => some (bs.all id) | none => none
def anyBl (ds : List D) : Option Bool := match blsOf ds with | some bs => some (bs.any id) | none => none
def tAll (a : E) : T := fun σ => bnd (a σ) fun x => look fun st => match lstOf st x with | some ds => allBl ds | none => none
def tAny (a : E) : T := fun σ => bnd (a σ) fun x => look fun st => match lstOf st x with | some ds => anyBl ds | none => none

/-- sorted, of data that are alike -/
def alikeB (xs : List PyData) : Bool := xs.all fun a => xs.all fun b => PySem.W.alike a b
def isTup1 : PyData → Bool
  | .tuple (_ :: _) => true
  | _ => false
def noTup : PyData → Bool
  | .tuple _ => false
  | .none => false
  | _ => true
def sortD (st : Store) (ds : List D) : Option (List D) := match toPys st ds with
  | some xs => if alikeB xs && (xs.all isTup1 || xs.all noTup) && okLen xs.length && xs.all (fun x => decide (x.depth ≤ 64)) then
      some (((ds.zip xs).mergeSort (PySem.W.dataLe false (·.2))).map (·.1)) else none
  | none => none
def lSorted (a : E) : EL := fun σ => bnd (a σ) fun x => look fun st => match lstOf st x with | some ds => sortD st ds | none => none

/-! ### what is walked -/
/-- the items, and what must stand while they are walked -/
inductive Src where
  | fix (ds : List D)
  | live (l : Nat) (n : Nat)
abbrev I := Env → M Src
abbrev G := D → Env → Option Env
def gVar (i : Nat) : G := fun d σ => if i < σ.length then some (σ.set i (some d)) else none
def gSet2 (i j : Nat) : G := fun d σ => match d with
  | .tup [x, y] => if i < σ.length && j < σ.length then some ((σ.set i (some x)).set j (some y)) else none
  | _ => none
def gSet3 (i j k : Nat) : G := fun d σ => match d with
  | .tup [x, y, z] => if i < σ.length && j < σ.length && k < σ.length then some (((σ.set i (some x)).set j (some y)).set k (some z)) else none
  | _ => none
def iOf (a : E) : I := fun σ => bnd (a σ) fun x => look fun st => match x with
  | .tup ds => some (.fix ds)
  | .lst ds => some (.fix ds)
  | .rol ds => some (.fix ds)
  | .loc l => (match st[l]? with | some (.lst ds) => some (.live l ds.length) | _ => none)
  | _ => none
def rangeD (i j : Int) : List D := (List.range (j - i).toNat).map fun (k : Nat) => D.int (i + k)
def small62 (i : Int) : Bool := decide (-(2 ^ 62) ≤ i) && decide (i < 2 ^ 62)
def iRange (a : E) : I := fun σ => bnd (a σ) fun x => need (match x with | .int j => if small62 j then some (.fix (rangeD 0 j)) else none | _ => none)
def iRange2 (a b : E) : I := fun σ => bnd (a σ) fun x => bnd (b σ) fun y => need (match x, y with | .int i, .int j => if small62 i && small62 j then some (.fix (rangeD i j)) else none | _, _ => none)
def enumFrom (n : Nat) : List D → List D
  | [] => []
  | d :: ds => .tup [.int n, d] :: enumFrom (n + 1) ds
def zipD : List D → List D → List D
  | x :: xs, y :: ys => .tup [x, y] :: zipD xs ys
  | _, _ => []
/-- a new list walked at once -/
def iL (l : EL) : I := fun σ => bnd (l σ) fun ds => ret (.fix ds)
/-- enumerate(x), zip(x, y): of tuples and lists that nobody changes -/
def iEnum (a : E) : I := fun σ => bnd (a σ) fun x => need (match x with | .tup ds => some (.fix (enumFrom 0 ds)) | .lst ds => some (.fix (enumFrom 0 ds)) | _ => none)
def iZip (a b : E) : I := fun σ => bnd (a σ) fun x => bnd (b σ) fun y => need (match x, y with
  | .tup xs, .tup ys => some (.fix (zipD xs ys))
  | .lst xs, .lst ys => some (.fix (zipD xs ys))
  | _, _ => none)

/-! ### comprehensions -/
def wipe (σ : Env) : List Nat → Env
  | [] => σ
  | v :: vs => (wipe σ vs).set v none
def compFix (g : G) (t : T) (e : E) (σ : Env) : List D → M (List D)
  | [] => ret []
  | d :: ds => match g d σ with
    | none => stuck
    | some σ1 => bndN (t σ1) fun k => if k then bndN (e σ1) fun x => bndN (compFix g t e σ ds) fun xs => ret (x :: xs) else compFix g t e σ ds
def compLive (g : G) (t : T) (e : E) (σ : Env) (l : Nat) : Nat → Nat → M (List D)
  | 0, i => fun st => match st[l]? with
    | some (.lst ds) => if ds.length ≤ i then some (.ok [] st) else none
    | _ => none
  | n + 1, i => fun st => match st[l]? with
    | some (.lst ds) => (match ds[i]? with
      | none => none
      | some d => (match g d σ with
        | none => none
        | some σ1 => bndN (t σ1) (fun k => if k then bndN (e σ1) fun x => bndN (compLive g t e σ l n (i + 1)) fun xs => ret (x :: xs) else compLive g t e σ l n (i + 1)) st))
    | _ => none
def lComp (s : I) (g : G) (t : T) (e : E) (vs : List Nat) : EL := fun σ => bnd (s σ) fun src => bnd (match src with
  | .fix ds => compFix g t e (wipe σ vs) ds
  | .live l n => compLive g t e (wipe σ vs) l n 0) fun ds => if okLen ds.length then ret ds else stuck
def tYes : T := fun _ => ret true

/-! ### statements -/
inductive RS where
  | nx (σ : Env) (st : Store)
  | rt (d : D) (st : Store)
  | bk (σ : Env) (st : Store)
  | ct (σ : Env) (st : Store)
  | ex (x : Exn) (σ : Env) (st : Store)
abbrev S := Env → Store → Option RS
/-- an expression, then what is done with its value -/
def sBnd {α : Type} (m : M α) (σ : Env) (f : α → Store → Option RS) : Store → Option RS := fun st => match m st with
  | some (.ok a st1) => f a st1
  | some (.ex x st1) => some (.ex x σ st1)
  | none => none
def sSkip : S := fun σ st => some (.nx σ st)
def sSeq (a b : S) : S := fun σ st => match a σ st with
  | some (.nx σ1 st1) => b σ1 st1
  | r => r
def sSet (i : Nat) (e : E) : S := fun σ => sBnd (e σ) σ fun d st => if i < σ.length then some (.nx (σ.set i (some d)) st) else none
def sAsg (g : G) (e : E) : S := fun σ => sBnd (e σ) σ fun d st => match g d σ with | some σ1 => some (.nx σ1 st) | none => none
def sAug (i : Nat) (f : Op) (e : E) : S := fun σ => sBnd (bnd (eVar i σ) fun x => bnd (e σ) fun y => need (f x y)) σ fun d st => some (.nx (σ.set i (some d)) st)
def sRet (e : E) : S := fun σ => sBnd (e σ) σ fun d st => some (.rt d st)
def sIf (t : T) (a b : S) : S := fun σ => sBnd (t σ) σ fun c st => if c then a σ st else b σ st
def sExpr (e : E) : S := fun σ => sBnd (e σ) σ fun _ st => some (.nx σ st)
def sBreak : S := fun σ st => some (.bk σ st)
def sCont : S := fun σ st => some (.ct σ st)
def sNever : S := fun _ _ => none
def sRaise (x : Str) : S := fun σ st => some (.ex ⟨x, none⟩ σ st)
/-- x[i] = e, x a list of the store -/
def sPut (o i e : E) : S := fun σ => sBnd (e σ) σ fun d => sBnd (bnd (o σ) fun x => bnd (i σ) fun k => ret (x, k)) σ fun p st => match p with
  | (.loc l, .int k) => (match st[l]? with
    | some (.lst ds) => (match L2.ixN ds.length k with
      | some j => some (.nx σ (st.set l (.lst (ds.set j d))))
      | none => none)
    | _ => none)
  | _ => none
/-- a list of the store's -/
def eLoc (o : E) : Env → M Nat := fun σ => bnd (o σ) fun x => look fun st => match x with
  | .loc l => (match st[l]? with | some (.lst _) => some l | _ => none)
  | _ => none
/-- x.append(e), x.extend(e) -/
def sApp (o e : E) : S := fun σ => sBnd (bnd (eLoc o σ) fun l => bnd (e σ) fun d => ret (l, d)) σ fun p st => match st[p.1]? with
  | some (.lst ds) => if decide (ds.length < 16777216) then some (.nx σ (st.set p.1 (.lst (ds ++ [p.2])))) else none
  | _ => none
def sExt (o e : E) : S := fun σ => sBnd (bnd (eLoc o σ) fun l => bnd (e σ) fun d => bnd (look fun st => lstOf st d) fun xs => ret (l, xs)) σ fun p st => match st[p.1]? with
  | some (.lst ds) => if okLen (ds.length + p.2.length) then some (.nx σ (st.set p.1 (.lst (ds ++ p.2)))) else none
  | _ => none
def forFix (g : G) (b : S) : List D → S
  | [] => fun σ st => some (.nx σ st)
  | d :: ds => fun σ st => match g d σ with
    | none => none
    | some σ1 => match b σ1 st with
      | some (.nx σ2 st2) => forFix g b ds σ2 st2
      | some (.ct σ2 st2) => forFix g b ds σ2 st2
      | some (.bk σ2 st2) => some (.nx σ2 st2)
      | r => r
def forLive (g : G) (b : S) (l : Nat) : Nat → Nat → S
  | 0, i => fun σ st => match st[l]? with
    | some (.lst ds) => if ds.length ≤ i then some (.nx σ st) else none
    | _ => none
  | n + 1, i => fun σ st => match st[l]? with
    | some (.lst ds) => (match ds[i]? with
      | none => none
      | some d => (match g d σ with
        | none => none
        | some σ1 => match b σ1 st with
          | some (.nx σ2 st2) => forLive g b l n (i + 1) σ2 st2
          | some (.ct σ2 st2) => forLive g b l n (i + 1) σ2 st2
          | some (.bk σ2 st2) => some (.nx σ2 st2)
          | r => r))
    | _ => none
def sFor (s : I) (g : G) (b : S) : S := fun σ => sBnd (s σ) σ fun src st => match src with
  | .fix ds => forFix g b ds σ st
  | .live l n => forLive g b l n 0 σ st
def whN (c : T) (b : S) : Nat → S
  | 0 => fun _ _ => none
  | n + 1 => fun σ => sBnd (c σ) σ fun k st => if k then (match b σ st with
      | some (.nx σ2 st2) => whN c b n σ2 st2
      | some (.ct σ2 st2) => whN c b n σ2 st2
      | some (.bk σ2 st2) => some (.nx σ2 st2)
      | r => r) else some (.nx σ st)
def sWhile (fuel : Nat) (c : T) (b : S) : S := whN c b fuel

/-! ### functions -/
def start (n : Nat) (args : List D) : Env := args.map some ++ List.replicate (n - args.length) none
/-- a def's body, run -/
def runB (n : Nat) (b : S) (args : List D) : M D := fun st => match b (start n args) st with
  | some (.nx _ st1) => some (.ok .non st1)
  | some (.rt d st1) => some (.ok d st1)
  | some (.ex x _ st1) => some (.ex x st1)
  | _ => none
mutual
def below (n : Nat) : D → Bool
  | .tup ds => belows n ds
  | .lst ds => belows n ds
  | .rol ds => belows n ds
  | .dct kvs => belowk n kvs
  | .loc l => decide (l < n)
  | _ => true
def belows (n : Nat) : List D → Bool
  | [] => true
  | d :: ds => below n d && belows n ds
def belowk (n : Nat) : List (Key × D) → Bool
  | [] => true
  | (_, d) :: ds => below n d && belowk n ds
end
def belowO (n : Nat) : O → Bool
  | .lst ds => belows n ds
  | .ins _ fs => belows n (fs.map (·.2))
def okSt (n : Nat) (st : Store) : Bool := st.all (belowO n)
/-- a list of the callee's own, handed back, is a value from here on -/
def thaw (n : Nat) (st : Store) : D → D
  | .loc l => if l < n then .loc l else match st[l]? with
    | some (.lst ds) => .lst ds
    | _ => .loc l
  | d => d
def argBelow (n : Nat) (x : Exn) : Bool := match x.arg with | some d => below n d | none => true
/-- what the callee made for itself is forgotten -/
def scp (m : M D) : M D := fun st => match m st with
  | some (.ok d st1) =>
    let e := thaw st.length st1 d
    if below st.length e && okSt st.length (st1.take st.length) then some (.ok e (st1.take st.length)) else none
  | some (.ex x st1) => if argBelow st.length x && okSt st.length (st1.take st.length) then some (.ex x (st1.take st.length)) else none
  | none => none
abbrev Fn := List D → M D
def eCall (f : Fn) (as : EL) : E := fun σ => bnd (as σ) f
end Mi

set_option Elab.async false
set_option linter.all false
set_option autoImplicit false
set_option maxRecDepth 100000
/-! Mi: how the tree values and the store lie in the abstract heap of the hand layer; the judgements. -/
namespace Mi
open PySem PySem.Spec PyProof.Rows L2

/-- the module's names; the places of lists that are being made, to which no value refers -/
structure Ctx where
  g : Str → Option Value
  ρ : List Addr
abbrev Ctx.add (c : Ctx) (p : Addr) : Ctx := ⟨c.g, p :: c.ρ⟩
/-- a list that is only read -/
def RoAt (K : PySem.W.Frag) (mg : Ctx) (μ : List Addr) (H : Hp) (a : Addr) (vs : List V) : Prop :=
  (a ∉ μ ∧ a ∉ mg.ρ ∧ Rd H a (.lst vs)) ∨
    ∃ (o : Obj) (its : Array Value) (n : Nat), K.lookup a = some o ∧ o.cls = .type "list" ∧ o.dict = none ∧ o.data = .seq its n ∧ its.size ≤ sizeLine ∧ Vals vs its.toList
theorem RoAt.sq {K : PySem.W.Frag} {mg : Ctx} {μ : List Addr} {H : Hp} {a : Addr} {vs : List V} (h : RoAt K mg μ H a vs) : SqL K H a vs := by
  rcases h with ⟨_, _, h⟩ | h
  · exact .inl h
  · exact .inr h

mutual
inductive RD (K : PySem.W.Frag) (mg : Ctx) (μ : List Addr) (H : Hp) : V → D → Prop where
  | non : RD K mg μ H .non .non
  | bl (b : Bool) : RD K mg μ H (.bl b) (.bl b)
  | int (i : Int) : RD K mg μ H (.int i) (.int i)
  | str (x : Str) : RD K mg μ H (.str x) (.str x)
  | tup {a : Addr} {vs : List V} {ds : List D} : H a = some (.tup vs) → RDs K mg μ H vs ds → RD K mg μ H (.ref a) (.tup ds)
  | lst {a : Addr} {vs : List V} {ds : List D} : a ∉ μ → a ∉ mg.ρ → H a = some (.lst vs) → RDs K mg μ H vs ds → RD K mg μ H (.ref a) (.lst ds)
  | rol {a : Addr} {vs : List V} {ds : List D} : RoAt K mg μ H a vs → RDs K mg μ H vs ds → RD K mg μ H (.ref a) (.rol ds)
  | dct {a : Addr} {kvs : List (Key × V)} {kds : List (Key × D)} : H a = some (.dK kvs) → a ∉ μ → a ∉ mg.ρ → RDk K mg μ H kvs kds → RD K mg μ H (.ref a) (.dct kds)
  | loc {a : Addr} {l : Nat} : μ[l]? = some a → RD K mg μ H (.ref a) (.loc l)
  | fn {a : Addr} {x : Str} : mg.g x = some (.ref a) → RD K mg μ H (.ref a) (.fn x)
inductive RDs (K : PySem.W.Frag) (mg : Ctx) (μ : List Addr) (H : Hp) : List V → List D → Prop where
  | nil : RDs K mg μ H [] []
  | cons {v : V} {d : D} {vs : List V} {ds : List D} : RD K mg μ H v d → RDs K mg μ H vs ds → RDs K mg μ H (v :: vs) (d :: ds)
inductive RDk (K : PySem.W.Frag) (mg : Ctx) (μ : List Addr) (H : Hp) : List (Key × V) → List (Key × D) → Prop where
  | nil : RDk K mg μ H [] []
  | cons {k : Key} {v : V} {d : D} {vs : List (Key × V)} {ds : List (Key × D)} : RD K mg μ H v d → RDk K mg μ H vs ds → RDk K mg μ H ((k, v) :: vs) ((k, d) :: ds)
end

/-- from (μ, H) to (μ', H'): new places of the store are new objects, all that is not of the store stays -/
structure Step (μ : List Addr) (H : Hp) (μ' : List Addr) (H' : Hp) : Prop where
  pre : ∃ ν, μ' = μ ++ ν ∧ ∀ p ∈ ν, H p = none
  keep : ∀ a o, H a = some o → a ∉ μ → H' a = some o

def ObjR (K : PySem.W.Frag) (mg : Ctx) (μ : List Addr) (H : Hp) (a : Addr) : O → Prop
  | .lst ds => ∃ vs, H a = some (.lst vs) ∧ RDs K mg μ H vs ds
  | .ins c fs => ∃ (C dx : Addr) (vs : List V), mg.g c = some (.ref C) ∧ H a = some (.ins C dx ((fs.map (·.1)).zip vs)) ∧ RDs K mg μ H vs (fs.map (·.2))
structure Rel (K : PySem.W.Frag) (mg : Ctx) (μ : List Addr) (st : Store) (H : Hp) : Prop where
  len : μ.length = st.length
  nd : μ.Nodup
  rn : mg.ρ.Nodup
  res : ∀ a ∈ mg.ρ, a ∉ μ ∧ ∃ o, H a = some o
  obj : ∀ (l : Nat) (a : Addr) (o : O), μ[l]? = some a → st[l]? = some o → ObjR K mg μ H a o

section
variable {K : PySem.W.Frag} {mg : Ctx} {μ μ' μ1 μ2 : List Addr} {H H' H1 H2 : Hp} {st st1 st2 : Store}
theorem Rel.at (R : Rel K mg μ st H) {l : Nat} {o : O} (h : st[l]? = some o) : ∃ a, μ[l]? = some a ∧ ObjR K mg μ H a o := by
  have hl : l < μ.length := by rw [R.len]; exact (List.getElem?_eq_some_iff.mp h).1
  exact ⟨μ[l], List.getElem?_eq_getElem hl, R.obj l _ o (List.getElem?_eq_getElem hl) h⟩
theorem Rel.mem (R : Rel K mg μ st H) {a : Addr} (h : a ∈ μ) : (∃ vs, H a = some (.lst vs)) ∨ ∃ C dx fs, H a = some (.ins C dx fs) := by
  obtain ⟨l, hl, e⟩ := List.mem_iff_getElem.mp h
  have hs : l < st.length := by rw [← R.len]; exact hl
  have q := R.obj l a st[l] (by rw [List.getElem?_eq_getElem hl, e]) (List.getElem?_eq_getElem hs)
  cases ho : st[l] with
  | lst ds => rw [ho] at q; obtain ⟨vs, q, _⟩ := q; exact .inl ⟨vs, q⟩
  | ins c fs => rw [ho] at q; obtain ⟨C, dx, vs, _, q, _⟩ := q; exact .inr ⟨C, dx, _, q⟩
theorem Rel.there (R : Rel K mg μ st H) {a : Addr} (h : a ∈ μ) : ∃ o, H a = some o := by
  rcases R.mem h with ⟨vs, e⟩ | ⟨C, dx, fs, e⟩ <;> exact ⟨_, e⟩
theorem Rel.new (R : Rel K mg μ st H) {a : Addr} (h : H a = none) : a ∉ μ := fun z => by
  obtain ⟨o, e⟩ := R.there z
  rw [h] at e; cases e
theorem Rel.notTup (R : Rel K mg μ st H) {a : Addr} {vs : List V} (h : H a = some (.tup vs)) : a ∉ μ := fun z => by
  rcases R.mem z with ⟨ws, e⟩ | ⟨C, dx, fs, e⟩ <;> (rw [h] at e; cases e)

theorem Step.refl (μ : List Addr) (H : Hp) : Step μ H μ H := ⟨⟨[], (List.append_nil _).symm, fun _ h => nomatch h⟩, fun _ _ h _ => h⟩
/-- (μ1 lies in H1) -/
theorem Step.trans (a : Step μ H μ1 H1) (R : Rel K mg μ1 st1 H1) (b : Step μ1 H1 μ2 H2) : Step μ H μ2 H2 := by
  obtain ⟨⟨ν, rfl, hν⟩, ka⟩ := a
  obtain ⟨⟨ρ, rfl, hρ⟩, kb⟩ := b
  refine ⟨⟨ν ++ ρ, List.append_assoc .., fun p hp => ?_⟩, fun a o h hn => ?_⟩
  · rcases List.mem_append.mp hp with hp | hp
    · exact hν p hp
    · cases e : H p with
      | none => rfl
      | some o =>
        have hn := hρ p hp
        by_cases hm : p ∈ μ
        · obtain ⟨u, hu⟩ := R.there (List.mem_append_left ν hm)
          rw [hn] at hu; cases hu
        · rw [ka p o e hm] at hn; cases hn
  · refine kb a o (ka a o h hn) fun z => ?_
    rcases List.mem_append.mp z with z | z
    · exact hn z
    · rw [hν a z] at h; cases h
theorem Step.laid {p : Addr} {o : HO} (h : H p = none) : Step μ H μ (upd H p o) :=
  ⟨⟨[], (List.append_nil _).symm, fun _ h => nomatch h⟩, fun a u e _ => by rw [upd_ne (ne_of_none e h)]; exact e⟩
theorem Step.put {l : Nat} {a : Addr} {o : HO} (h : μ[l]? = some a) : Step μ H μ (upd H a o) :=
  ⟨⟨[], (List.append_nil _).symm, fun _ h => nomatch h⟩, fun b u e hn => by rw [upd_ne (fun z => hn (by rw [z]; exact List.mem_of_getElem? h))]; exact e⟩
theorem Step.out (s : Step μ H μ' H') {a : Addr} {u : HO} (h : H a = some u) (hn : a ∉ μ) : a ∉ μ' := by
  obtain ⟨⟨ν, rfl, hν⟩, k⟩ := s
  intro z
  rcases List.mem_append.mp z with z | z
  · exact hn z
  · rw [hν a z] at h; cases h
theorem RoAt.step {a : Addr} {vs : List V} (s : Step μ H μ' H') (h : RoAt K mg μ H a vs) : RoAt K mg μ' H' a vs := by
  rcases h with ⟨hn, hr, h⟩ | h
  · obtain ⟨⟨ν, rfl, hν⟩, k⟩ := s
    have hm : ∀ u, H a = some u → a ∉ μ ++ ν := fun u e z => by
      rcases List.mem_append.mp z with z | z
      · exact hn z
      · rw [hν a z] at e; cases e
    rcases h with h | ⟨o, h⟩
    · exact .inl ⟨hm _ h, hr, .inl (k a _ h hn)⟩
    · exact .inl ⟨hm _ h, hr, .inr ⟨o, k a _ h hn⟩⟩
  · exact .inr h
theorem Step.idx (s : Step μ H μ' H') {l : Nat} {a : Addr} (h : μ[l]? = some a) : μ'[l]? = some a := by
  obtain ⟨⟨ν, rfl, _⟩, _⟩ := s
  rw [List.getElem?_append_left (List.getElem?_eq_some_iff.mp h).1]
  exact h
theorem Step.fresh (s : Step μ H μ' H') {a : Addr} (h : H' a = none) (hm : a ∉ μ) : H a = none := by
  cases e : H a with
  | none => rfl
  | some o => rw [s.keep a o e hm] at h; cases h

mutual
theorem RD.step {c : Ctx} (R : Rel K c μ st H) (s : Step μ H μ' H') : ∀ {v : V} {d : D}, RD K mg μ H v d → RD K mg μ' H' v d
  | _, _, .non => .non
  | _, _, .bl b => .bl b
  | _, _, .int i => .int i
  | _, _, .str x => .str x
  | _, _, .tup h r => .tup (s.keep _ _ h (R.notTup h)) (RDs.step R s r)
  | _, _, .lst hn hr h r => .lst (s.out h hn) hr (s.keep _ _ h hn) (RDs.step R s r)
  | _, _, .rol h r => .rol (h.step s) (RDs.step R s r)
  | _, _, .dct h hn hr r => .dct (s.keep _ _ h hn) (s.out h hn) hr (RDk.step R s r)
  | _, _, .loc h => .loc (s.idx h)
  | _, _, .fn h => .fn h
theorem RDs.step {c : Ctx} (R : Rel K c μ st H) (s : Step μ H μ' H') : ∀ {vs : List V} {ds : List D}, RDs K mg μ H vs ds → RDs K mg μ' H' vs ds
  | _, _, .nil => .nil
  | _, _, .cons h r => .cons (RD.step R s h) (RDs.step R s r)
theorem RDk.step {c : Ctx} (R : Rel K c μ st H) (s : Step μ H μ' H') : ∀ {vs : List (Key × V)} {ds : List (Key × D)}, RDk K mg μ H vs ds → RDk K mg μ' H' vs ds
  | _, _, .nil => .nil
  | _, _, .cons h r => .cons (RD.step R s h) (RDk.step R s r)
end
theorem RDs.length : ∀ {vs : List V} {ds : List D}, RDs K mg μ H vs ds → vs.length = ds.length
  | _, _, .nil => rfl
  | _, _, .cons _ r => by rw [List.length_cons, List.length_cons, RDs.length r]
theorem RDs.get : ∀ {vs : List V} {ds : List D} {i : Nat} {d : D}, RDs K mg μ H vs ds → ds[i]? = some d → ∃ v, vs[i]? = some v ∧ RD K mg μ H v d
  | _, _, _, _, .nil, h => by simp at h
  | _, _, 0, _, .cons r _, h => by simp at h; subst h; exact ⟨_, rfl, r⟩
  | _, _, i + 1, _, .cons _ t, h => by
    obtain ⟨v, h1, h2⟩ := RDs.get (i := i) t (by simpa using h)
    exact ⟨v, by simpa using h1, h2⟩
theorem RDs.get' : ∀ {vs : List V} {ds : List D} {i : Nat} {v : V}, RDs K mg μ H vs ds → vs[i]? = some v → ∃ d, ds[i]? = some d ∧ RD K mg μ H v d
  | _, _, _, _, .nil, h => by simp at h
  | _, _, 0, _, .cons r _, h => by simp at h; subst h; exact ⟨_, rfl, r⟩
  | _, _, i + 1, _, .cons _ t, h => by
    obtain ⟨v, h1, h2⟩ := RDs.get' (i := i) t (by simpa using h)
    exact ⟨v, by simpa using h1, h2⟩
theorem RDs.app : ∀ {vs ws : List V} {ds es : List D}, RDs K mg μ H vs ds → RDs K mg μ H ws es → RDs K mg μ H (vs ++ ws) (ds ++ es)
  | _, _, _, _, .nil, r => r
  | _, _, _, _, .cons h t, r => .cons h (RDs.app t r)
theorem RDs.set {v : V} {d : D} (r : RD K mg μ H v d) : ∀ {vs : List V} {ds : List D} (i : Nat), RDs K mg μ H vs ds → RDs K mg μ H (vs.set i v) (ds.set i d)
  | _, _, _, .nil => .nil
  | _, _, 0, .cons _ t => .cons r t
  | _, _, i + 1, .cons h t => .cons h (RDs.set r i t)
theorem RDs.take : ∀ {vs : List V} {ds : List D} (n : Nat), RDs K mg μ H vs ds → RDs K mg μ H (vs.take n) (ds.take n)
  | _, _, 0, _ => .nil
  | _, _, _ + 1, .nil => .nil
  | _, _, n + 1, .cons h t => .cons h (RDs.take n t)
theorem RDs.drop : ∀ {vs : List V} {ds : List D} (n : Nat), RDs K mg μ H vs ds → RDs K mg μ H (vs.drop n) (ds.drop n)
  | _, _, 0, r => r
  | _, _, _ + 1, .nil => .nil
  | _, _, n + 1, .cons _ t => RDs.drop n t
theorem ObjR.step (R : Rel K mg μ st H) (s : Step μ H μ' H') {a : Addr} {o : O} (e : ∀ u, H a = some u → H' a = some u) (h : ObjR K mg μ H a o) : ObjR K mg μ' H' a o := by
  cases o with
  | lst ds => obtain ⟨vs, h1, h2⟩ := h; exact ⟨vs, e _ h1, h2.step R s⟩
  | ins c fs => obtain ⟨C, dx, vs, h0, h1, h2⟩ := h; exact ⟨C, dx, vs, h0, e _ h1, h2.step R s⟩
/-- a new object beside -/
theorem Rel.laid (R : Rel K mg μ st H) {p : Addr} {o : HO} (h : H p = none) : Rel K mg μ st (upd H p o) :=
  ⟨R.len, R.nd, R.rn, fun a ha => ⟨(R.res a ha).1, let ⟨o, e⟩ := (R.res a ha).2; ⟨o, by rw [upd_ne (ne_of_none e h)]; exact e⟩⟩, fun l a u h1 h2 => (R.obj l a u h1 h2).step R (Step.laid h) fun w e => by rw [upd_ne (ne_of_none e h)]; exact e⟩
mutual
/-- the list at p, to which no value refers, goes into the store -/
theorem RD.take_in {p : Addr} : ∀ {v : V} {d : D}, RD K (mg.add p) μ H v d → RD K mg (μ ++ [p]) H v d
  | _, _, .non => .non
  | _, _, .bl b => .bl b
  | _, _, .int i => .int i
  | _, _, .str x => .str x
  | _, _, .tup h r => .tup h (RDs.take_in r)
  | _, _, .lst hn hr h r => .lst (fun z => by
      rcases List.mem_append.mp z with z | z
      · exact hn z
      · exact hr (by simp at z; simp [z])) (fun z => hr (List.mem_cons_of_mem _ z)) h (RDs.take_in r)
  | _, _, .rol h r => .rol (by
      rcases h with ⟨hn, hr, h⟩ | h
      · exact .inl ⟨fun z => by
          rcases List.mem_append.mp z with z | z
          · exact hn z
          · exact hr (by simp at z; simp [z]), fun z => hr (List.mem_cons_of_mem _ z), h⟩
      · exact .inr h) (RDs.take_in r)
  | _, _, .dct h hn hr r => .dct h (fun z => by
      rcases List.mem_append.mp z with z | z
      · exact hn z
      · exact hr (by simp at z; simp [z])) (fun z => hr (List.mem_cons_of_mem _ z)) (RDk.take_in r)
  | _, _, .loc (l := l) h => .loc (by rw [List.getElem?_append_left (List.getElem?_eq_some_iff.mp h).1]; exact h)
  | _, _, .fn h => .fn h
theorem RDs.take_in {p : Addr} : ∀ {vs : List V} {ds : List D}, RDs K (mg.add p) μ H vs ds → RDs K mg (μ ++ [p]) H vs ds
  | _, _, .nil => .nil
  | _, _, .cons h r => .cons (RD.take_in h) (RDs.take_in r)
theorem RDk.take_in {p : Addr} : ∀ {vs : List (Key × V)} {ds : List (Key × D)}, RDk K (mg.add p) μ H vs ds → RDk K mg (μ ++ [p]) H vs ds
  | _, _, .nil => .nil
  | _, _, .cons h r => .cons (RD.take_in h) (RDk.take_in r)
end
theorem Rel.take_in {p : Addr} (R : Rel K (mg.add p) μ st H) {vs : List V} {ds : List D} (h : H p = some (.lst vs)) (r : RDs K (mg.add p) μ H vs ds) : Rel K mg (μ ++ [p]) (st ++ [.lst ds]) H := by
  have hp : p ∉ μ := (R.res p List.mem_cons_self).1
  have hpr : p ∉ mg.ρ := (List.nodup_cons.mp R.rn).1
  refine ⟨by simp [R.len], List.nodup_append.mpr ⟨R.nd, by simp, fun a ha b hb e => by simp at hb; subst hb; subst e; exact hp ha⟩, (List.nodup_cons.mp R.rn).2, fun a ha => ⟨fun z => ?_, (R.res a (List.mem_cons_of_mem _ ha)).2⟩, fun l a o h1 h2 => ?_⟩
  · rcases List.mem_append.mp z with z | z
    · exact (R.res a (List.mem_cons_of_mem _ ha)).1 z
    · simp at z; subst z; exact hpr ha
  · by_cases hl : l < st.length
    · rw [List.getElem?_append_left (by rw [R.len]; exact hl)] at h1
      rw [List.getElem?_append_left hl] at h2
      have q := R.obj l a o h1 h2
      cases o with
      | lst es => obtain ⟨ws, q1, q2⟩ := q; exact ⟨ws, q1, q2.take_in⟩
      | ins c fs => obtain ⟨C, dx, ws, q0, q1, q2⟩ := q; exact ⟨C, dx, ws, q0, q1, q2.take_in⟩
    · rw [List.getElem?_append_right (by omega)] at h2
      rw [List.getElem?_append_right (by rw [R.len]; omega)] at h1
      have e : l - st.length = 0 := by
        have := (List.getElem?_eq_some_iff.mp h2).1
        simp at this; omega
      rw [e] at h2
      rw [R.len, e] at h1
      simp at h1 h2
      subst h1; subst h2
      exact ⟨vs, h, r.take_in⟩
mutual
theorem RD.free {p : Addr} : ∀ {v : V} {d : D}, RD K (mg.add p) μ H v d → RD K mg μ H v d
  | _, _, .non => .non
  | _, _, .bl b => .bl b
  | _, _, .int i => .int i
  | _, _, .str x => .str x
  | _, _, .tup h r => .tup h (RDs.free r)
  | _, _, .lst hn hr h r => .lst hn (fun z => hr (List.mem_cons_of_mem _ z)) h (RDs.free r)
  | _, _, .rol h r => .rol (by
      rcases h with ⟨hn, hr, h⟩ | h
      · exact .inl ⟨hn, fun z => hr (List.mem_cons_of_mem _ z), h⟩
      · exact .inr h) (RDs.free r)
  | _, _, .dct h hn hr r => .dct h hn (fun z => hr (List.mem_cons_of_mem _ z)) (RDk.free r)
  | _, _, .loc h => .loc h
  | _, _, .fn h => .fn h
theorem RDs.free {p : Addr} : ∀ {vs : List V} {ds : List D}, RDs K (mg.add p) μ H vs ds → RDs K mg μ H vs ds
  | _, _, .nil => .nil
  | _, _, .cons h r => .cons (RD.free h) (RDs.free r)
theorem RDk.free {p : Addr} : ∀ {vs : List (Key × V)} {ds : List (Key × D)}, RDk K (mg.add p) μ H vs ds → RDk K mg μ H vs ds
  | _, _, .nil => .nil
  | _, _, .cons h r => .cons (RD.free h) (RDk.free r)
end
theorem Rel.free {p : Addr} (R : Rel K (mg.add p) μ st H) : Rel K mg μ st H :=
  ⟨R.len, R.nd, (List.nodup_cons.mp R.rn).2, fun a ha => R.res a (List.mem_cons_of_mem _ ha), fun l a o h1 h2 => by
    have q := R.obj l a o h1 h2
    cases o with
    | lst es => obtain ⟨ws, q1, q2⟩ := q; exact ⟨ws, q1, q2.free⟩
    | ins c fs => obtain ⟨C, dx, ws, q0, q1, q2⟩ := q; exact ⟨C, dx, ws, q0, q1, q2.free⟩⟩
mutual
/-- to a place that is not known no value refers -/
theorem RD.keep {p : Addr} (R : Rel K mg μ st H) (h0 : H p = none) (hk : K.lookup p = none ∨ True) : ∀ {v : V} {d : D}, RD K mg μ H v d → RD K (mg.add p) μ H v d
  | _, _, .non => .non
  | _, _, .bl b => .bl b
  | _, _, .int i => .int i
  | _, _, .str x => .str x
  | _, _, .tup h r => .tup h (RDs.keep R h0 hk r)
  | _, _, .lst hn hr h r => .lst hn (fun z => by
      rcases List.mem_cons.mp z with z | z
      · rw [z, h0] at h; cases h
      · exact hr z) h (RDs.keep R h0 hk r)
  | _, _, .rol h r => .rol (by
      rcases h with ⟨hn, hr, h⟩ | h
      · exact .inl ⟨hn, fun z => by
          rcases List.mem_cons.mp z with z | z
          · rcases h with h | ⟨o, h⟩ <;> (rw [z, h0] at h; cases h)
          · exact hr z, h⟩
      · exact .inr h) (RDs.keep R h0 hk r)
  | _, _, .dct h hn hr r => .dct h hn (fun z => by
      rcases List.mem_cons.mp z with z | z
      · rw [z, h0] at h; cases h
      · exact hr z) (RDk.keep R h0 hk r)
  | _, _, .loc h => .loc h
  | _, _, .fn h => .fn h
theorem RDs.keep {p : Addr} (R : Rel K mg μ st H) (h0 : H p = none) (hk : K.lookup p = none ∨ True) : ∀ {vs : List V} {ds : List D}, RDs K mg μ H vs ds → RDs K (mg.add p) μ H vs ds
  | _, _, .nil => .nil
  | _, _, .cons h r => .cons (RD.keep R h0 hk h) (RDs.keep R h0 hk r)
theorem RDk.keep {p : Addr} (R : Rel K mg μ st H) (h0 : H p = none) (hk : K.lookup p = none ∨ True) : ∀ {vs : List (Key × V)} {ds : List (Key × D)}, RDk K mg μ H vs ds → RDk K (mg.add p) μ H vs ds
  | _, _, .nil => .nil
  | _, _, .cons h r => .cons (RD.keep R h0 hk h) (RDk.keep R h0 hk r)
end
/-- a new list at p, to which no value refers -/
theorem Rel.hold (R : Rel K mg μ st H) {p : Addr} {u : HO} (h0 : H p = none) : Rel K (mg.add p) μ st (upd H p u) := by
  have hp : p ∉ μ := R.new h0
  have hr : p ∉ mg.ρ := fun z => by
    obtain ⟨_, o, e⟩ := R.res p z
    rw [h0] at e; cases e
  have s : Step μ H μ (upd H p u) := Step.laid h0
  refine ⟨R.len, R.nd, List.nodup_cons.mpr ⟨hr, R.rn⟩, fun a ha => ?_, fun l a o h1 h2 => ?_⟩
  · rcases List.mem_cons.mp ha with rfl | ha
    · exact ⟨hp, u, upd_same⟩
    · obtain ⟨x, o, e⟩ := R.res a ha
      exact ⟨x, o, by rw [upd_ne (ne_of_none e h0)]; exact e⟩
  · have q := R.obj l a o h1 h2
    have R' : Rel K mg μ st (upd H p u) := R.laid h0
    cases o with
    | lst es =>
      obtain ⟨ws, q1, q2⟩ := q
      refine ⟨ws, by rw [upd_ne (ne_of_none q1 h0)]; exact q1, ?_⟩
      exact RDs.step R s (q2.keep R h0 (.inr trivial))
    | ins c fs =>
      obtain ⟨C, dx, ws, q0, q1, q2⟩ := q
      refine ⟨C, dx, ws, q0, by rw [upd_ne (ne_of_none q1 h0)]; exact q1, ?_⟩
      exact RDs.step R s (q2.keep R h0 (.inr trivial))
/-- an object of the store is changed -/
theorem Rel.put (R : Rel K mg μ st H) {l : Nat} {a : Addr} {vs : List V} {ds : List D} (hl : μ[l]? = some a) (r : RDs K mg μ H vs ds) : Rel K mg μ (st.set l (.lst ds)) (upd H a (.lst vs)) := by
  have s : Step μ H μ (upd H a (.lst vs)) := Step.put hl
  refine ⟨by simp [R.len], R.nd, R.rn, fun b hb => ⟨(R.res b hb).1, let ⟨o, e⟩ := (R.res b hb).2; ⟨o, s.keep b o e (R.res b hb).1⟩⟩, fun i b o h1 h2 => ?_⟩
  have hll := (List.getElem?_eq_some_iff.mp hl).1
  by_cases hi : i = l
  · subst hi
    rw [hl] at h1; cases h1
    rw [List.getElem?_set_self (by rw [← R.len]; exact hll)] at h2
    cases h2
    exact ⟨vs, upd_same, r.step R s⟩
  · rw [List.getElem?_set_ne (Ne.symm hi)] at h2
    have hb : b ≠ a := fun z => by
      subst z
      obtain ⟨i1, e1⟩ := List.getElem?_eq_some_iff.mp h1
      obtain ⟨i2, e2⟩ := List.getElem?_eq_some_iff.mp hl
      exact hi (by obtain ⟨i1, e1⟩ := List.getElem?_eq_some_iff.mp h1; obtain ⟨i2, e2⟩ := List.getElem?_eq_some_iff.mp hl; exact (List.getElem_inj R.nd).mp (e1.trans e2.symm))
    exact (R.obj i b o h1 h2).step R s fun u e => by rw [upd_ne hb]; exact e
end

/-! ### the frame -/
structure REnv (K : PySem.W.Frag) (mg : Ctx) (μ : List Addr) (H : Hp) (σ : L2.St) (env : Env) : Prop where
  len : σ.length = env.length
  val : ∀ (i : Nat) (d : D), env[i]? = some (some d) → ∃ v, σ[i]? = some (some v) ∧ RD K mg μ H v d
section
variable {K : PySem.W.Frag} {mg : Ctx} {μ μ' : List Addr} {H H' : Hp} {st : Store} {σ : L2.St} {env : Env}
theorem REnv.step (e : REnv K mg μ H σ env) (R : Rel K mg μ st H) (s : Step μ H μ' H') : REnv K mg μ' H' σ env :=
  ⟨e.len, fun i d h => let ⟨v, h1, h2⟩ := e.val i d h; ⟨v, h1, h2.step R s⟩⟩
theorem REnv.set (e : REnv K mg μ H σ env) {i : Nat} {v : V} {d : D} (r : RD K mg μ H v d) : REnv K mg μ H (σ.set i (some v)) (env.set i (some d)) := by
  refine ⟨by simp [e.len], fun j u h => ?_⟩
  by_cases hj : i = j
  · subst hj
    have hl : i < env.length := by
      have := (List.getElem?_eq_some_iff.mp h).1
      simpa using this
    rw [List.getElem?_set_self hl] at h
    cases h
    exact ⟨v, List.getElem?_set_self (by rw [e.len]; exact hl), r⟩
  · rw [List.getElem?_set_ne hj] at h
    rw [List.getElem?_set_ne hj]
    exact e.val j u h
theorem REnv.wipe (e : REnv K mg μ H σ env) : ∀ vs : List Nat, REnv K mg μ H (L2.wipe σ vs) (Mi.wipe env vs)
  | [] => e
  | v :: vs => by
    have q := REnv.wipe e vs
    refine ⟨?_, fun j u h => ?_⟩
    · show ((L2.wipe σ vs).set v none).length = ((Mi.wipe env vs).set v none).length
      simp [q.len]
    · have h' : ((Mi.wipe env vs).set v none)[j]? = some (some u) := h
      by_cases hj : v = j
      · subst hj
        by_cases hl : v < (Mi.wipe env vs).length
        · rw [List.getElem?_set_self hl] at h'; cases h'
        · rw [List.getElem?_eq_none (by simp; omega)] at h'; cases h'
      · rw [List.getElem?_set_ne hj] at h'
        obtain ⟨x, h1, h2⟩ := q.val j u h'
        refine ⟨x, ?_, h2⟩
        show ((L2.wipe σ vs).set v none)[j]? = some (some x)
        rw [List.getElem?_set_ne hj]
        exact h1
end

/-! ### judgements -/
structure Base where
  μ : List Addr
  ρ : List Addr
  H : Hp
abbrev Wish := Exn → Env → Store → Prop
structure Now (K : PySem.W.Frag) (mg : Ctx) (B : Base) (μ : List Addr) (st : Store) (H : Hp) (σ : L2.St) (env : Env) : Prop where
  step : Step B.μ B.H μ H
  rel : Rel K mg μ st H
  env : REnv K mg μ H σ env
theorem Now.next {K : PySem.W.Frag} {mg : Ctx} {B : Base} {μ μ' : List Addr} {st st' : Store} {H H' : Hp} {σ : L2.St} {env : Env} (n : Now K mg B μ st H σ env) (s : Step μ H μ' H') (R : Rel K mg μ' st' H') : Now K mg B μ' st' H' σ env :=
  ⟨n.step.trans n.rel s, R, n.env.step n.rel s⟩

section
variable (K : PySem.W.Frag) (mg : Ctx) (B : Base) (W : Wish)
def Res (μ : List Addr) (H : Hp) (env : Env) (r : R D) (Q : VK) : Prop := match r with
  | .ok d st' => ∀ μ' H' v, Step μ H μ' H' → Rel K mg μ' st' H' → RD K mg μ' H' v d → Q v H'
  | .ex x st' => W x env st'
def ResA (μ : List Addr) (H : Hp) (env : Env) (r : R (List D)) (Q : List V → Hp → Prop) : Prop := match r with
  | .ok ds st' => ∀ μ' H' vs, Step μ H μ' H' → Rel K mg μ' st' H' → RDs K mg μ' H' vs ds → Q vs H'
  | .ex x st' => W x env st'
/-- a new list -/
def ResL (μ : List Addr) (H : Hp) (env : Env) (r : R (List D)) (Q : VK) : Prop := match r with
  | .ok ds st' => ∀ μ' H' p vs, Step μ H μ' H' → Rel K (mg.add p) μ' st' H' → H p = none → H' p = some (.lst vs) → RDs K (mg.add p) μ' H' vs ds → Q (.ref p) H'
  | .ex x st' => W x env st'
def ResT (μ : List Addr) (H : Hp) (env : Env) (r : R Bool) (Q : Bool → Hp → Prop) : Prop := match r with
  | .ok b st' => ∀ μ' H', Step μ H μ' H' → Rel K mg μ' st' H' → Q b H'
  | .ex x st' => W x env st'
def tM (m : E) : TE := fun σ H Q => ∃ μ st env, Now K mg B μ st H σ env ∧ ∃ r, m env st = some r ∧ Res K mg W μ H env r Q
def tMA (m : EL) : TA := fun σ H Q => ∃ μ st env, Now K mg B μ st H σ env ∧ ∃ r, m env st = some r ∧ ResA K mg W μ H env r Q
def tML (m : EL) : TE := fun σ H Q => ∃ μ st env, Now K mg B μ st H σ env ∧ ∃ r, m env st = some r ∧ ResL K mg W μ H env r Q
def tMT (m : T) : TT := fun σ H Q => ∃ μ st env, Now K mg B μ st H σ env ∧ ∃ r, m env st = some r ∧ ResT K mg W μ H env r Q
end
/-- the expression e computes m -/
abbrev CE (X : Cx) (B : Base) (W : Wish) (e : Expr) (m : E) : Prop := PE X e (tM X.K ⟨X.mg, B.ρ⟩ B W m)
abbrev CA (X : Cx) (B : Base) (W : Wish) (es : List Expr) (m : EL) : Prop := PA X es (tMA X.K ⟨X.mg, B.ρ⟩ B W m)
abbrev CL (X : Cx) (B : Base) (W : Wish) (e : Expr) (m : EL) : Prop := PE X e (tML X.K ⟨X.mg, B.ρ⟩ B W m)
abbrev CT (X : Cx) (B : Base) (W : Wish) (e : Expr) (m : T) : Prop := PT X e (tMT X.K ⟨X.mg, B.ρ⟩ B W m)

theorem PE.imp {X : Cx} {e : Expr} {t t' : TE} (h : PE X e t) (k : ∀ σ H Q, t' σ H Q → t σ H Q) : PE X e t' := ⟨fun pins s σ H Q I hw => h.run pins s σ H Q I (k σ H Q hw)⟩
theorem PT.imp {X : Cx} {e : Expr} {t t' : TT} (h : PT X e t) (k : ∀ σ H Q, t' σ H Q → t σ H Q) : PT X e t' := ⟨fun pins s σ H Q I hw => h.run pins s σ H Q I (k σ H Q hw)⟩
theorem PA.imp {X : Cx} {e : List Expr} {t t' : TA} (h : PA X e t) (k : ∀ σ H Q, t' σ H Q → t σ H Q) : PA X e t' := ⟨fun pos pins s σ H Q I hw => h.run pos pins s σ H Q I (k σ H Q hw)⟩
theorem PS.imp {X : Cx} {e : Stmt} {t t' : TS} (h : PS X e t) (k : ∀ D σ H, t' D σ H → t D σ H) : PS X e t' := ⟨fun pins s σ H D I hw => h.run pins s σ H D I (k D σ H hw)⟩

section
variable {K : PySem.W.Frag} {mg : Ctx} {B : Base} {W : Wish} {μ : List Addr} {st : Store} {H : Hp} {σ : L2.St} {env : Env} {β : Type}
theorem bnd_inv {α : Type} {m : M α} {f : α → M β} {r : R β} (h : bnd m f st = some r) : (∃ a st1, m st = some (.ok a st1) ∧ f a st1 = some r) ∨ ∃ x st1, m st = some (.ex x st1) ∧ r = .ex x st1 := by
  unfold bnd at h
  split at h
  · rename_i a st1 e; exact .inl ⟨a, st1, e, h⟩
  · rename_i x st1 e; cases h; exact .inr ⟨x, st1, e, rfl⟩
  · cases h
/-- the first of two steps -/
theorem first {m : E} {k : D → M β} {r : R β} {Q : VK} (n : Now K mg B μ st H σ env) (h : bnd (m env) k st = some r) (hx : ∀ x st1, r = .ex x st1 → W x env st1)
    (ok : ∀ d st1 μ1 H1 v, k d st1 = some r → Step μ H μ1 H1 → Now K mg B μ1 st1 H1 σ env → RD K mg μ1 H1 v d → Q v H1) : tM K mg B W m σ H Q := by
  rcases bnd_inv h with ⟨d, st1, e, h⟩ | ⟨x, st1, e, rfl⟩
  · exact ⟨μ, st, env, n, _, e, fun μ1 H1 v s R r => ok d st1 μ1 H1 v h s (n.next s R) r⟩
  · exact ⟨μ, st, env, n, _, e, hx x st1 rfl⟩
theorem firstA {m : EL} {k : List D → M β} {r : R β} {Q : List V → Hp → Prop} (n : Now K mg B μ st H σ env) (h : bnd (m env) k st = some r) (hx : ∀ x st1, r = .ex x st1 → W x env st1)
    (ok : ∀ ds st1 μ1 H1 vs, k ds st1 = some r → Step μ H μ1 H1 → Now K mg B μ1 st1 H1 σ env → RDs K mg μ1 H1 vs ds → Q vs H1) : tMA K mg B W m σ H Q := by
  rcases bnd_inv h with ⟨d, st1, e, h⟩ | ⟨x, st1, e, rfl⟩
  · exact ⟨μ, st, env, n, _, e, fun μ1 H1 v s R r => ok d st1 μ1 H1 v h s (n.next s R) r⟩
  · exact ⟨μ, st, env, n, _, e, hx x st1 rfl⟩
theorem firstL {m : EL} {k : List D → M β} {r : R β} {Q : VK} (n : Now K mg B μ st H σ env) (h : bnd (m env) k st = some r) (hx : ∀ x st1, r = .ex x st1 → W x env st1)
    (ok : ∀ ds st1 μ1 H1 p vs, k ds st1 = some r → Step μ H μ1 H1 → Now K mg B μ1 st1 H1 σ env → Rel K (mg.add p) μ1 st1 H1 → H p = none → H1 p = some (.lst vs) → RDs K (mg.add p) μ1 H1 vs ds → Q (.ref p) H1) : tML K mg B W m σ H Q := by
  rcases bnd_inv h with ⟨d, st1, e, h⟩ | ⟨x, st1, e, rfl⟩
  · exact ⟨μ, st, env, n, _, e, fun μ1 H1 p vs s R a b r => ok d st1 μ1 H1 p vs h s (n.next s R.free) R a b r⟩
  · exact ⟨μ, st, env, n, _, e, hx x st1 rfl⟩
theorem firstT {m : T} {k : Bool → M β} {r : R β} {Q : Bool → Hp → Prop} (n : Now K mg B μ st H σ env) (h : bnd (m env) k st = some r) (hx : ∀ x st1, r = .ex x st1 → W x env st1)
    (ok : ∀ b st1 μ1 H1, k b st1 = some r → Step μ H μ1 H1 → Now K mg B μ1 st1 H1 σ env → Q b H1) : tMT K mg B W m σ H Q := by
  rcases bnd_inv h with ⟨d, st1, e, h⟩ | ⟨x, st1, e, rfl⟩
  · exact ⟨μ, st, env, n, _, e, fun μ1 H1 s R => ok d st1 μ1 H1 h s (n.next s R)⟩
  · exact ⟨μ, st, env, n, _, e, hx x st1 rfl⟩
theorem res_ex {r : R D} {Q : VK} (h : Res K mg W μ H env r Q) : ∀ x st1, r = .ex x st1 → W x env st1 := fun x st1 e => by subst e; exact h
theorem resA_ex {r : R (List D)} {Q : List V → Hp → Prop} (h : ResA K mg W μ H env r Q) : ∀ x st1, r = .ex x st1 → W x env st1 := fun x st1 e => by subst e; exact h
theorem resL_ex {r : R (List D)} {Q : VK} (h : ResL K mg W μ H env r Q) : ∀ x st1, r = .ex x st1 → W x env st1 := fun x st1 e => by subst e; exact h
theorem resT_ex {r : R Bool} {Q : Bool → Hp → Prop} (h : ResT K mg W μ H env r Q) : ∀ x st1, r = .ex x st1 → W x env st1 := fun x st1 e => by subst e; exact h
theorem need_inv {α : Type} {o : Option α} {r : R α} (h : need o st = some r) : ∃ a, o = some a ∧ r = .ok a st := by
  unfold need at h
  split at h
  · cases h; exact ⟨_, rfl, rfl⟩
  · cases h
theorem look_inv {α : Type} {f : Store → Option α} {r : R α} (h : look f st = some r) : ∃ a, f st = some a ∧ r = .ok a st := by
  unfold look at h
  split at h
  · rename_i a e; cases h; exact ⟨a, e, rfl⟩
  · cases h
theorem ret_inv {α : Type} {a : α} {r : R α} (h : ret a st = some r) : r = .ok a st := by cases h; rfl
/-- the same as ever in the end -/
theorem Res.ok {d : D} {Q : VK} {μ1 : List Addr} {H1 : Hp} {st1 : Store} {v : V} (h : Res K mg W μ H env (.ok d st1) Q) (s : Step μ H μ1 H1) (R : Rel K mg μ1 st1 H1) (r : RD K mg μ1 H1 v d) : Q v H1 := h μ1 H1 v s R r
end
end Mi

set_option Elab.async false
set_option linter.all false
set_option autoImplicit false
set_option maxRecDepth 100000
set_option maxHeartbeats 1000000
/-! Mi: the expressions' rules. -/
namespace Mi
open PySem PySem.Spec PyProof.Rows L2
section
variable {X : Cx} {B : Base} {W : Wish} {a b c e : Expr} {ma mb mc m : E} {pos : Pos}

theorem oklen {n : Nat} (h : okLen n = true) : n ≤ sizeLine := by
  rw [sizeLine_eq]
  exact of_decide_eq_true h
theorem ce_var {i : Nat} {x : Str} (hN : X.N[i]? = some x) (hv : Vis X.env.scope x) (hd : (x == ("__debug__" : Str)) = false := by decide) (hcd : (x == ("__classdict__" : Str)) = false := by decide) :
    CE X B W (.Name x pos) (eVar i) := by
  refine PE.imp (pe_var hN hv hd hcd) ?_
  rintro σ H Q ⟨μ, st, env, n, r, h, hq⟩
  obtain ⟨d, e, rfl⟩ := need_inv h
  have e' : env[i]? = some (some d) := by
    split at e
    · rename_i u q; cases e; exact q
    · cases e
  obtain ⟨v, h1, h2⟩ := n.env.val i d e'
  exact ⟨v, h1, hq _ _ _ (Step.refl _ _) n.rel h2⟩
theorem tC_of {v : V} {d : D} (h : ∀ (ρ μ : List Addr) (H : Hp), RD X.K ⟨X.mg, ρ⟩ μ H v d) : ∀ (σ : L2.St) (H : Hp) (Q : VK), tM X.K ⟨X.mg, B.ρ⟩ B W (eC d) σ H Q → tC v σ H Q := by
  rintro σ H Q ⟨μ, st, env, n, r, e, hq⟩
  cases ret_inv e
  exact hq _ _ _ (Step.refl _ _) n.rel (h _ _ _)
theorem ce_int {i : Int} {j : Nat} : CE X B W (.Constant (.int i) j pos) (eC (.int i)) := PE.imp pe_int (tC_of fun _ _ _ => .int i)
theorem ce_bl {i : Bool} {j : Nat} : CE X B W (.Constant (.bool i) j pos) (eC (.bl i)) := PE.imp pe_bl (tC_of fun _ _ _ => .bl i)
theorem ce_non {j : Nat} : CE X B W (.Constant .none j pos) (eC .non) := PE.imp pe_non (tC_of fun _ _ _ => .non)
theorem ce_str {x : Str} {j : Nat} : CE X B W (.Constant (.str x) j pos) (eC (.str x)) := PE.imp pe_str (tC_of fun _ _ _ => .str x)
/-- a number of the module's -/
theorem ce_gint {x : Str} {i : Int} (hg : Gl X x) (hm : ∃ t, X.mg x = some (.int i t)) (hd : (x == ("__debug__" : Str)) = false := by decide) : CE X B W (.Name x pos) (eC (.int i)) := by
  obtain ⟨t, hm⟩ := hm
  exact PE.imp (pe_glob (v := .int i) hg hm ⟨t, rfl⟩ hd) (tC_of fun _ _ _ => .int i)
theorem ce_gstr {x y : Str} (hg : Gl X x) (hm : ∃ t, X.mg x = some (.str y t)) (hd : (x == ("__debug__" : Str)) = false := by decide) : CE X B W (.Name x pos) (eC (.str y)) := by
  obtain ⟨t, hm⟩ := hm
  exact PE.imp (pe_glob (v := .str y) hg hm ⟨t, rfl⟩ hd) (tC_of fun _ _ _ => .str y)
/-- a def as a value -/
theorem ce_gfn {x : Str} {f : Addr} (hg : Gl X x) (hm : X.mg x = some (.ref f)) (hd : (x == ("__debug__" : Str)) = false := by decide) : CE X B W (.Name x pos) (eC (.fn x)) :=
  PE.imp (pe_glob (v := .ref f) hg hm rfl hd) (tC_of fun _ _ _ => .fn hm)

/-! ### operators -/
def OpS (X : Cx) (op : Operator) (f : Op) : Prop := ∃ r : R2, OpR X (binaryOp op) r ∧ ∀ {ρ μ : List Addr} {st : Store} {H : Hp} {v u : V} {x y d : D} {Q : VK}, Rel X.K ⟨X.mg, ρ⟩ μ st H → RD X.K ⟨X.mg, ρ⟩ μ H v x → RD X.K ⟨X.mg, ρ⟩ μ H u y → f x y = some d →
  (∀ w H', Step μ H μ H' → Rel X.K ⟨X.mg, ρ⟩ μ st H' → RD X.K ⟨X.mg, ρ⟩ μ H' w d → Q w H') → r v u H Q
theorem ce_bin {op : Operator} {f : Op} (ho : OpS X op f) (ha : CE X B W a ma) (hb : CE X B W b mb) : CE X B W (.BinOp a op b pos) (eBin f ma mb) := by
  obtain ⟨r, hr, hs⟩ := ho
  refine PE.imp (pe_op hr ha hb) ?_
  rintro σ H Q ⟨μ, st, env, n, r, h, hq⟩
  refine first n h (res_ex hq) fun d st1 μ1 H1 v h1 s1 n1 r1 => ?_
  refine first n1 h1 (res_ex hq) fun d2 st2 μ2 H2 u h2 s2 n2 r2 => ?_
  obtain ⟨d3, e3, rfl⟩ := need_inv h2
  exact hs n2.rel (r1.step n1.rel s2) r2 e3 fun w H3 s3 R3 r3 => hq _ _ _ ((s1.trans n1.rel s2).trans n2.rel s3) R3 r3
theorem RDs.nil_iff {K : PySem.W.Frag} {mg : Ctx} {μ : List Addr} {H : Hp} {vs : List V} {ds : List D} (r : RDs K mg μ H vs ds) : vs = [] ↔ ds = [] := by
  cases r <;> simp
theorem ops_add : OpS X .Add oAdd := by
  refine ⟨_, (op_add.or op_add_str).or op_catA, ?_⟩
  intro ρ μ st H v u x y d Q R rv ru h q
  cases x <;> cases y <;> simp only [oAdd] at h <;> try (cases h; done)
  · cases h
    cases rv; cases ru
    exact .inl (.inl ⟨_, _, rfl, rfl, q _ _ (Step.refl _ _) R (.int _)⟩)
  · split at h
    · rename_i hz
      cases h
      cases rv; cases ru
      exact .inl (.inr ⟨_, _, rfl, rfl, oklen hz, q _ _ (Step.refl _ _) R (.str _)⟩)
    · cases h
  · split at h
    · rename_i xs ys hz
      cases h
      cases rv with
      | @tup a vs _ ha ra =>
        cases ru with
        | @tup b ws _ hb rb =>
          refine .inr ⟨a, b, vs, ws, rfl, rfl, SqT.of ha, SqT.of hb, by rw [ra.length, rb.length]; exact oklen hz, fun e => ?_, fun e1 e2 => ?_, fun e1 e2 p hp => ?_⟩
          · have e' := ra.nil_iff.mp e
            subst e'
            exact q _ _ (Step.refl _ _) R (.tup hb rb)
          · have e' := rb.nil_iff.mp e2
            subst e'
            rw [List.append_nil] at q
            exact q _ _ (Step.refl _ _) R (.tup ha ra)
          · have s : Step μ H μ (upd H p (.tup (vs ++ ws))) := Step.laid hp
            exact q _ _ s (R.laid hp) (.tup upd_same ((ra.app rb).step R s))
    · cases h
theorem ops_sub : OpS X .Sub oSub := by
  refine ⟨_, op_sub, ?_⟩
  intro ρ μ st H v u x y d Q R rv ru h q
  cases x <;> cases y <;> simp only [oSub] at h <;> try (cases h; done)
  cases h; cases rv; cases ru
  exact ⟨_, _, rfl, rfl, q _ _ (Step.refl _ _) R (.int _)⟩
theorem ops_mul : OpS X .Mult oMul := by
  refine ⟨_, op_mul, ?_⟩
  intro ρ μ st H v u x y d Q R rv ru h q
  cases x <;> cases y <;> simp only [oMul] at h <;> try (cases h; done)
  split at h
  · rename_i i j hz
    cases h; cases rv; cases ru
    refine ⟨_, _, rfl, rfl, ?_, q _ _ (Step.refl _ _) R (.int _)⟩
    simp only [mulOk, Bool.or_eq_true, Bool.and_eq_true, decide_eq_true_eq] at hz
    exact hz
  · cases h
theorem ops_div : OpS X .FloorDiv oDiv := by
  refine ⟨_, op_fdiv, ?_⟩
  intro ρ μ st H v u x y d Q R rv ru h q
  cases x <;> cases y <;> simp only [oDiv] at h <;> try (cases h; done)
  split at h
  · rename_i i j hz
    cases h; cases rv; cases ru
    refine ⟨_, _, rfl, rfl, ?_, q _ _ (Step.refl _ _) R (.int _)⟩
    simp only [divOk, Bool.and_eq_true, decide_eq_true_eq] at hz
    exact hz
  · cases h
theorem ops_mod : OpS X .Mod oMod := by
  refine ⟨_, op_mod, ?_⟩
  intro ρ μ st H v u x y d Q R rv ru h q
  cases x <;> cases y <;> simp only [oMod] at h <;> try (cases h; done)
  split at h
  · rename_i i j hz
    cases h; cases rv; cases ru
    exact ⟨_, _, rfl, rfl, of_decide_eq_true hz, q _ _ (Step.refl _ _) R (.int _)⟩
  · cases h
theorem ops_pow : OpS X .Pow oPow := by
  refine ⟨_, op_pow, ?_⟩
  intro ρ μ st H v u x y d Q R rv ru h q
  cases x <;> cases y <;> simp only [oPow] at h <;> try (cases h; done)
  split at h
  · rename_i i j hz
    cases h; cases rv; cases ru
    refine ⟨_, _, rfl, rfl, ?_, q _ _ (Step.refl _ _) R (.int _)⟩
    simp only [powOk, Bool.and_eq_true, decide_eq_true_eq] at hz
    exact ⟨hz.1.1, hz.1.2, hz.2⟩
  · cases h
theorem ce_neg (ha : CE X B W a ma) : CE X B W (.UnaryOp .USub a pos) (eNeg ma) := by
  refine PE.imp (pe_un un_neg ha) ?_
  rintro σ H Q ⟨μ, st, env, n, r, h, hq⟩
  refine first n h (res_ex hq) fun d st1 μ1 H1 v h1 s1 n1 r1 => ?_
  obtain ⟨d2, e2, rfl⟩ := need_inv h1
  cases d <;> simp only at e2 <;> try (cases e2; done)
  cases e2; cases r1
  exact ⟨_, rfl, hq _ _ _ s1 n1.rel (.int _)⟩

/-! ### lists of arguments, tuples, lists -/
theorem ca_nil : CA X B W [] eNil := by
  refine PA.imp pa_nil ?_
  rintro σ H Q ⟨μ, st, env, n, r, h, hq⟩
  cases ret_inv h
  exact hq _ _ _ (Step.refl _ _) n.rel .nil
theorem ca_cons {es : List Expr} {mr : EL} (ha : CE X B W a ma) (hr : CA X B W es mr) (hs : starEach (a :: es) X.env = (false, eval a X.env) :: starEach es X.env := by rfl) : CA X B W (a :: es) (eCons ma mr) := by
  refine PA.imp (pa_cons ha hr hs) ?_
  rintro σ H Q ⟨μ, st, env, n, r, h, hq⟩
  refine first n h (resA_ex hq) fun d st1 μ1 H1 v h1 s1 n1 r1 => ?_
  refine firstA n1 h1 (resA_ex hq) fun ds st2 μ2 H2 vs h2 s2 n2 r2 => ?_
  cases ret_inv h2
  exact hq _ _ _ (s1.trans n1.rel s2) n2.rel (.cons (r1.step n1.rel s2) r2)
theorem ce_tup {es : List Expr} {mr : EL} {k : Nat} (h : CA X B W es mr) : CE X B W (.Tuple es k pos) (eTup mr) := by
  refine PE.imp (pe_tup h) ?_
  rintro σ H Q ⟨μ, st, env, n, r, h, hq⟩
  refine firstA n h (res_ex hq) fun ds st1 μ1 H1 vs h1 s1 n1 r1 => ?_
  split at h1
  · rename_i hz
    cases ret_inv h1
    refine ⟨by rw [r1.length]; exact oklen hz, fun p hp => ?_⟩
    have s : Step μ1 H1 μ1 (upd H1 p (.tup vs)) := Step.laid hp
    exact hq _ _ _ (s1.trans n1.rel s) (n1.rel.laid hp) (.tup upd_same (r1.step n1.rel s))
  · cases h1
/-- a new list's place is no place of the store's -/
theorem laid_list {K : PySem.W.Frag} {mg : Ctx} {μ μ1 : List Addr} {H H1 : Hp} {st st1 : Store} {ds : List D} {vs : List V} {p : Addr} (R : Rel K mg μ st H) (s1 : Step μ H μ1 H1) (R1 : Rel K mg μ1 st1 H1) (r : RDs K mg μ1 H1 vs ds) (hp : H1 p = none) :
    Step μ H μ1 (upd H1 p (.lst vs)) ∧ Rel K (mg.add p) μ1 st1 (upd H1 p (.lst vs)) ∧ H p = none ∧ (upd H1 p (.lst vs)) p = some (.lst vs) ∧ RDs K (mg.add p) μ1 (upd H1 p (.lst vs)) vs ds := by
  have s : Step μ1 H1 μ1 (upd H1 p (.lst vs)) := Step.laid hp
  have hm := R1.new hp
  refine ⟨s1.trans R1 s, R1.hold hp, s1.fresh hp fun z => ?_, upd_same, RDs.step R1 s (r.keep R1 hp (.inr trivial))⟩
  obtain ⟨⟨ν, rfl, _⟩, _⟩ := s1
  exact hm (List.mem_append_left _ z)
theorem cl_disp {es : List Expr} {mr : EL} (h : CA X B W es mr) : CL X B W (.List es pos) (lDisp mr) := by
  refine PE.imp (pe_lst h) ?_
  rintro σ H Q ⟨μ, st, env, n, r, h, hq⟩
  refine firstA n h (resL_ex hq) fun ds st1 μ1 H1 vs h1 s1 n1 r1 => ?_
  split at h1
  · rename_i hz
    cases ret_inv h1
    refine ⟨by rw [r1.length]; exact oklen hz, fun p hp => ?_⟩
    obtain ⟨a1, a2, a3, a4, a5⟩ := laid_list n.rel s1 n1.rel r1 hp
    exact hq _ _ _ _ a1 a2 a3 a4 a5
  · cases h1
/-- a new list as a value -/
theorem ce_l {ml : EL} (h : CL X B W e ml) : CE X B W e (eL ml) := by
  refine PE.imp h ?_
  rintro σ H Q ⟨μ, st, env, n, r, h, hq⟩
  refine firstL n h (res_ex hq) fun ds st1 μ1 H1 p vs h1 s1 n1 R1 f1 f2 r1 => ?_
  cases ret_inv h1
  obtain ⟨g1, g2⟩ := R1.res p List.mem_cons_self
  exact hq _ _ _ s1 n1.rel (.lst g1 (List.nodup_cons.mp R1.rn).1 f2 r1.free)
/-- .. as one of the store's -/
theorem ce_new {ml : EL} (h : CL X B W e ml) : CE X B W e (eNew ml) := by
  refine PE.imp h ?_
  rintro σ H Q ⟨μ, st, env, n, r, h, hq⟩
  refine firstL n h (res_ex hq) fun ds st1 μ1 H1 p vs h1 s1 n1 R1 f1 f2 r1 => ?_
  cases h1
  have s2 : Step μ H (μ1 ++ [p]) H1 := by
    obtain ⟨⟨ν, rfl, hν⟩, k⟩ := s1
    exact ⟨⟨ν ++ [p], List.append_assoc .., fun q hq => by
      rcases List.mem_append.mp hq with z | z
      · exact hν q z
      · simp at z; subst z; exact f1⟩, k⟩
  exact hq _ _ _ s2 (R1.take_in f2 r1) (.loc (by rw [← R1.len]; simp))
end
end Mi

set_option Elab.async false
set_option linter.all false
set_option autoImplicit false
set_option maxRecDepth 100000
set_option maxHeartbeats 1000000
/-! Mi: comparisons, tests. -/
namespace Mi
open PySem PySem.Spec PyProof.Rows L2

/-! ### values as data -/
section
variable {K : PySem.W.Frag} {mg : Ctx} {μ : List Addr} {H : Hp} {st : Store}
section
variable {ρ : Nat → Option PyData} (hρ : ∀ (l : Nat) (a : Addr) (p : PyData), μ[l]? = some a → ρ l = some p → Dp K H (.ref a) p)
include hρ
mutual
theorem dp_py : ∀ {v : V} {d : D} {p : PyData}, RD K mg μ H v d → py ρ d = some p → Dp K H v p
  | _, _, _, .non, h => by simp only [py, Option.some.injEq] at h; subst h; exact .non
  | _, _, _, .bl b, h => by simp only [py, Option.some.injEq] at h; subst h; exact .bl b
  | _, _, _, .int i, h => by simp only [py, Option.some.injEq] at h; subst h; exact .int i
  | _, _, _, .str x, h => by simp only [py, Option.some.injEq] at h; subst h; exact .str x
  | _, _, _, .tup ha r, h => by
    simp only [py] at h
    split at h
    · rename_i xs e; cases h; exact .tup (SqT.of ha) (dp_pys r e)
    · cases h
  | _, _, _, .lst _ _ ha r, h => by
    simp only [py] at h
    split at h
    · rename_i xs e; cases h; exact .lst (SqL.of ha) (dp_pys r e)
    · cases h
  | _, _, _, .rol _ _, h => by simp only [py] at h; cases h
  | _, _, _, .dct _ _ _ _, h => by simp only [py] at h; cases h
  | _, _, _, .loc hl, h => by simp only [py] at h; exact hρ _ _ _ hl h
  | _, _, _, .fn _, h => by simp only [py] at h; cases h
theorem dp_pys : ∀ {vs : List V} {ds : List D} {ps : List PyData}, RDs K mg μ H vs ds → pys ρ ds = some ps → DpAll K H vs ps
  | _, _, _, .nil, h => by simp only [pys, Option.some.injEq] at h; subst h; exact .nil
  | _, _, _, .cons r t, h => by
    simp only [pys] at h
    split at h
    · rename_i x e
      split at h
      · rename_i xs e2; cases h; exact .cons (dp_py r e) (dp_pys t e2)
      · cases h
    · cases h
end
end
theorem dp_loc (R : Rel K mg μ st H) : ∀ (n : Nat) (l : Nat) (a : Addr) (p : PyData), μ[l]? = some a → locPy st n l = some p → Dp K H (.ref a) p
  | 0, _, _, _, _, h => by cases h
  | n + 1, l, a, p, hl, h => by
    simp only [locPy] at h
    split at h
    · rename_i ds e
      split at h
      · rename_i xs e2
        cases h
        obtain ⟨vs, h1, h2⟩ := R.obj l a _ hl e
        exact .lst (SqL.of h1) (dp_pys (dp_loc R n) h2 e2)
      · cases h
    · cases h
theorem dp_of (R : Rel K mg μ st H) {v : V} {d : D} {p : PyData} (r : RD K mg μ H v d) (h : toPy st d = some p) : Dp K H v p := dp_py (dp_loc R 8) r h
theorem dps_of (R : Rel K mg μ st H) {vs : List V} {ds : List D} {ps : List PyData} (r : RDs K mg μ H vs ds) (h : toPys st ds = some ps) : DpAll K H vs ps := dp_pys (dp_loc R 8) r h
end
section
variable {ρ : Nat → Option PyData} (hρ : ∀ (l : Nat) (p : PyData), ρ l = some p → p.plain = true)
include hρ
mutual
theorem py_plain : ∀ (d : D) {p : PyData}, py ρ d = some p → p.plain = true
  | .non, _, h => by simp only [py, Option.some.injEq] at h; subst h; simp only [PyData.plain]
  | .bl b, _, h => by simp only [py, Option.some.injEq] at h; subst h; simp only [PyData.plain]
  | .int b, _, h => by simp only [py, Option.some.injEq] at h; subst h; simp only [PyData.plain]
  | .str b, _, h => by simp only [py, Option.some.injEq] at h; subst h; simp only [PyData.plain]
  | .tup ds, _, h => by
    simp only [py] at h
    split at h
    · rename_i xs e; cases h; simp only [PyData.plain]; exact pys_plain ds e
    · cases h
  | .lst ds, _, h => by
    simp only [py] at h
    split at h
    · rename_i xs e; cases h; simp only [PyData.plain]; exact pys_plain ds e
    · cases h
  | .rol _, _, h => by simp only [py] at h; cases h
  | .dct _, _, h => by simp only [py] at h; cases h
  | .loc l, _, h => by simp only [py] at h; exact hρ _ _ h
  | .fn _, _, h => by simp only [py] at h; cases h
theorem pys_plain : ∀ (ds : List D) {ps : List PyData}, pys ρ ds = some ps → PyData.plainAll ps = true
  | [], _, h => by simp only [pys, Option.some.injEq] at h; subst h; simp only [PyData.plainAll]
  | d :: ds, _, h => by
    simp only [pys] at h
    split at h
    · rename_i x e
      split at h
      · rename_i xs e2
        cases h
        simp only [PyData.plainAll, Bool.and_eq_true]
        exact ⟨py_plain d e, pys_plain ds e2⟩
      · cases h
    · cases h
end
end
theorem loc_plain (st : Store) : ∀ (n l : Nat) (p : PyData), locPy st n l = some p → p.plain = true
  | 0, _, _, h => by cases h
  | n + 1, l, p, h => by
    simp only [locPy] at h
    split at h
    · rename_i ds e
      split at h
      · rename_i xs e2; cases h; simp only [PyData.plain]; exact pys_plain (loc_plain st n) ds e2
      · cases h
    · cases h
theorem toPy_plain {st : Store} {d : D} {p : PyData} (h : toPy st d = some p) : p.plain = true := py_plain (loc_plain st 8) d h
theorem toPys_plain {st : Store} {ds : List D} {p : List PyData} (h : toPys st ds = some p) : PyData.plainAll p = true := pys_plain (loc_plain st 8) ds h

section
variable {X : Cx} {B : Base} {W : Wish} {a b c e : Expr} {ma mb mc m : E} {ta tb t : T} {pos : Pos}
def rEqP (K : PySem.W.Frag) : R2 := fun x y H Q => ∃ d e, Dp K H x d ∧ Dp K H y e ∧ d.plain = true ∧ e.plain = true ∧ min d.depth e.depth ≤ 64 ∧ Q (.bl (PyData.eqv d e)) H
def rNeP (K : PySem.W.Frag) : R2 := fun x y H Q => ∃ d e, Dp K H x d ∧ Dp K H y e ∧ d.plain = true ∧ e.plain = true ∧ min d.depth e.depth ≤ 64 ∧ Q (.bl (!PyData.eqv d e)) H
theorem op_eqP (hu : X.A.units + 90 < cLine) : OpR X (compareOp .Eq) (rEqP X.K) := by
  intro pins s σ H x y v u Q I rx ry h
  obtain ⟨d, e, hd, he, sd, se, hm, q⟩ := h
  obtain ⟨as, r1⟩ := Dp.reads I d x v hd rx
  obtain ⟨bs, r2⟩ := Dp.reads I e y u he ry
  exact SeqAt.eq_plain r1 r2 sd se (by omega) ⟨.bl _, H, I, rfl, q⟩
theorem op_neP (hu : X.A.units + 90 < cLine) : OpR X (compareOp .NotEq) (rNeP X.K) := by
  intro pins s σ H x y v u Q I rx ry h
  obtain ⟨d, e, hd, he, sd, se, hm, q⟩ := h
  obtain ⟨as, r1⟩ := Dp.reads I d x v hd rx
  obtain ⟨bs, r2⟩ := Dp.reads I e y u he ry
  exact SeqAt.ne_plain r1 r2 sd se (by omega) ⟨.bl _, H, I, rfl, q⟩
def rInP (K : PySem.W.Frag) (neg : Bool) : R2 := fun x y H Q => ∃ d ds, Dp K H x d ∧ (Dp K H y (.list ds) ∨ Dp K H y (.tuple ds)) ∧ d.plain = true ∧ PyData.plainAll ds = true ∧ min (PyData.depthAll ds) d.depth ≤ 64 ∧ Q (.bl (if neg then !ds.any (fun z => PyData.eqv z d) else ds.any (fun z => PyData.eqv z d))) H
theorem op_inP (hu : X.A.units + 90 < cLine) : OpR X (compareOp .In) (rInP X.K false) := by
  intro pins s σ H x y v u Q I rx ry h
  obtain ⟨d, ds, hd, he, sd, se, hm, q⟩ := h
  obtain ⟨as, r1⟩ := Dp.reads I d x v hd rx
  rcases he with he | he
  · obtain ⟨bs, r2⟩ := Dp.reads I (.list ds) y u he ry
    exact SeqAt.in_list_data r2 r1 se sd (by omega) ⟨.bl _, H, I, rfl, q⟩
  · obtain ⟨bs, r2⟩ := Dp.reads I (.tuple ds) y u he ry
    exact SeqAt.in_tuple_data r2 r1 se sd (by omega) ⟨.bl _, H, I, rfl, q⟩
theorem op_notInP (hu : X.A.units + 90 < cLine) : OpR X (compareOp .NotIn) (rInP X.K true) := by
  intro pins s σ H x y v u Q I rx ry h
  obtain ⟨d, ds, hd, he, sd, se, hm, q⟩ := h
  obtain ⟨as, r1⟩ := Dp.reads I d x v hd rx
  rcases he with he | he
  · obtain ⟨bs, r2⟩ := Dp.reads I (.list ds) y u he ry
    exact SeqAt.notIn_list_data r2 r1 se sd (by omega) ⟨.bl _, H, I, rfl, q⟩
  · obtain ⟨bs, r2⟩ := Dp.reads I (.tuple ds) y u he ry
    exact SeqAt.notIn_tuple_data r2 r1 se sd (by omega) ⟨.bl _, H, I, rfl, q⟩

def CmpS (X : Cx) (op : CmpOp) (f : Cmp) : Prop := ∃ r : R2, OpR X (compareOp op) r ∧ ∀ {ρ μ : List Addr} {st : Store} {H : Hp} {v u : V} {x y : D} {k : Bool} {Q : VK}, Rel X.K ⟨X.mg, ρ⟩ μ st H → RD X.K ⟨X.mg, ρ⟩ μ H v x → RD X.K ⟨X.mg, ρ⟩ μ H u y → f st x y = some k →
  Q (.bl k) H → r v u H Q
theorem cmp_eq (hu : X.A.units + 90 < cLine) : CmpS X .Eq dEq := by
  refine ⟨_, op_eqP hu, ?_⟩
  intro ρ μ st H v u x y k Q R rv ru h q
  unfold dEq at h
  split at h
  · rename_i p1 p2 e1 e2
    split at h
    · rename_i hm
      cases h
      exact ⟨_, _, dp_of R rv e1, dp_of R ru e2, toPy_plain e1, toPy_plain e2, hm, q⟩
    · cases h
  · cases h
theorem dEq_inv {st : Store} {x y : D} {k : Bool} (h : dNe st x y = some k) : ∃ b, dEq st x y = some b ∧ k = !b := by
  unfold dNe at h
  split at h
  · rename_i b e; cases h; exact ⟨b, e, rfl⟩
  · cases h
theorem cmp_ne (hu : X.A.units + 90 < cLine) : CmpS X .NotEq dNe := by
  refine ⟨_, op_neP hu, ?_⟩
  intro ρ μ st H v u x y k Q R rv ru h q
  obtain ⟨b, h2, e⟩ := dEq_inv h
  subst e
  clear h
  have h := h2
  clear h2
  unfold dEq at h
  split at h
  · rename_i p1 p2 e1 e2
    split at h
    · rename_i hm
      cases h
      exact ⟨_, _, dp_of R rv e1, dp_of R ru e2, toPy_plain e1, toPy_plain e2, hm, q⟩
    · cases h
  · cases h
theorem seq_dp {ρ μ : List Addr} {st : Store} {H : Hp} {u : V} {y : D} {ds : List D} {ps : List PyData} (R : Rel X.K ⟨X.mg, ρ⟩ μ st H) (ru : RD X.K ⟨X.mg, ρ⟩ μ H u y) (hro : ∀ ds, y ≠ .rol ds) (h : seqOf st y = some ds) (hp : toPys st ds = some ps) :
    Dp X.K H u (.list ps) ∨ Dp X.K H u (.tuple ps) := by
  cases y <;> simp only [seqOf] at h <;> try (cases h; done)
  · cases h
    cases ru with
    | tup ha r => exact .inr (.tup (SqT.of ha) (dps_of R r hp))
  · cases h
    cases ru with
    | lst _ _ ha r => exact .inl (.lst (SqL.of ha) (dps_of R r hp))
  · exact absurd rfl (hro _)
  · split at h
    · rename_i es e
      cases h
      cases ru with
      | loc hl =>
        obtain ⟨vs, h1, h2⟩ := R.obj _ _ _ hl e
        exact .inl (.lst (SqL.of h1) (dps_of R h2 hp))
    · cases h
theorem seq_dp' {ρ μ : List Addr} {st : Store} {H : Hp} {u : V} {y : D} {ds : List D} {ps : List PyData} (R : Rel X.K ⟨X.mg, ρ⟩ μ st H) (ru : RD X.K ⟨X.mg, ρ⟩ μ H u y) (h : seqOf st y = some ds) (hp : toPys st ds = some ps) :
    Dp X.K H u (.list ps) ∨ Dp X.K H u (.tuple ps) := by
  by_cases hro : ∃ es, y = .rol es
  · obtain ⟨es, rfl⟩ := hro
    simp only [seqOf, Option.some.injEq] at h
    subst h
    cases ru with
    | rol ha r => exact .inl (.lst ha.sq (dps_of R r hp))
  · exact seq_dp R ru (fun ds z => hro ⟨ds, z⟩) h hp
theorem cmp_in (hu : X.A.units + 90 < cLine) : CmpS X .In dIn := by
  refine ⟨_, op_inP hu, ?_⟩
  intro ρ μ st H v u x y k Q R rv ru h q
  unfold dIn at h
  split at h
  · rename_i p1 ds e1 e2
    split at h
    · rename_i ps e3
      split at h
      · rename_i hm
        cases h
        exact ⟨_, _, dp_of R rv e1, seq_dp' R ru e2 e3, toPy_plain e1, toPys_plain e3, hm, q⟩
      · cases h
    · cases h
  · cases h
theorem cmp_notIn (hu : X.A.units + 90 < cLine) : CmpS X .NotIn dNotIn := by
  refine ⟨_, op_notInP hu, ?_⟩
  intro ρ μ st H v u x y k Q R rv ru h q
  unfold dNotIn at h
  split at h
  · rename_i b h'
    cases h
    unfold dIn at h'
    split at h'
    · rename_i p1 ds e1 e2
      split at h'
      · rename_i ps e3
        split at h'
        · rename_i hm
          cases h'
          exact ⟨_, _, dp_of R rv e1, seq_dp' R ru e2 e3, toPy_plain e1, toPys_plain e3, hm, q⟩
        · cases h'
      · cases h'
    · cases h'
  · cases h
theorem cmp_lt : CmpS X .Lt dLt := by
  refine ⟨_, op_lt, ?_⟩
  intro ρ μ st H v u x y k Q R rv ru h q
  cases x <;> cases y <;> simp only [dLt] at h <;> try (cases h; done)
  cases h; cases rv; cases ru
  exact ⟨_, _, rfl, rfl, q⟩
theorem cmp_le : CmpS X .LtE dLe := by
  refine ⟨_, op_le, ?_⟩
  intro ρ μ st H v u x y k Q R rv ru h q
  cases x <;> cases y <;> simp only [dLe] at h <;> try (cases h; done)
  cases h; cases rv; cases ru
  exact ⟨_, _, rfl, rfl, q⟩
theorem cmp_gt : CmpS X .Gt dGt := by
  refine ⟨_, op_gt, ?_⟩
  intro ρ μ st H v u x y k Q R rv ru h q
  cases x <;> cases y <;> simp only [dGt] at h <;> try (cases h; done)
  cases h; cases rv; cases ru
  exact ⟨_, _, rfl, rfl, q⟩
theorem cmp_ge : CmpS X .GtE dGe := by
  refine ⟨_, op_ge, ?_⟩
  intro ρ μ st H v u x y k Q R rv ru h q
  cases x <;> cases y <;> simp only [dGe] at h <;> try (cases h; done)
  cases h; cases rv; cases ru
  exact ⟨_, _, rfl, rfl, q⟩
theorem RD.isNon {K : PySem.W.Frag} {mg : Ctx} {μ : List Addr} {H : Hp} {v : V} {d : D} (r : RD K mg μ H v d) : decide (v = .non) = isNon d := by
  cases r <;> simp [Mi.isNon]
/-- .. and None -/
def dIsN' (st : Store) (x y : D) : Option Bool := if isNon y then dIsN st x y else none
def dIsNotN' (st : Store) (x y : D) : Option Bool := if isNon y then dIsNotN st x y else none
theorem cmp_isN : CmpS X .Is dIsN' := by
  refine ⟨_, op_isN, ?_⟩
  intro ρ μ st H v u x y k Q R rv ru h q
  have hy : y = .non := by cases y <;> simp [dIsN', isNon] at h ⊢
  subst hy
  have e : isNon x = k := Option.some.inj h
  subst e
  cases ru
  exact ⟨rfl, by rw [rv.isNon]; exact q⟩
theorem cmp_isNotN : CmpS X .IsNot dIsNotN' := by
  refine ⟨_, op_notN, ?_⟩
  intro ρ μ st H v u x y k Q R rv ru h q
  have hy : y = .non := by cases y <;> simp [dIsNotN', isNon] at h ⊢
  subst hy
  have e : (!isNon x) = k := Option.some.inj h
  subst e
  cases ru
  exact ⟨rfl, by rw [rv.isNon]; exact q⟩

/-! ### tests -/
theorem ct_cmp {op : CmpOp} {f : Cmp} (ho : CmpS X op f) (ha : CE X B W a ma) (hb : CE X B W b mb) (hm : behindInMarks op b = false) : CT X B W (.Compare a [op] [b] pos) (tCmp f ma mb) := by
  obtain ⟨r, hr, hs⟩ := ho
  refine PT.imp (pt_cmpR hr ha hb hm) ?_
  rintro σ H Q ⟨μ, st, env, n, r, h, hq⟩
  refine first n h (resT_ex hq) fun d st1 μ1 H1 v h1 s1 n1 r1 => ?_
  refine first n1 h1 (resT_ex hq) fun d2 st2 μ2 H2 u h2 s2 n2 r2 => ?_
  obtain ⟨k, e3, rfl⟩ := look_inv h2
  exact hs n2.rel (r1.step n1.rel s2) r2 e3 ⟨k, rfl, hq _ _ (s1.trans n1.rel s2) n2.rel⟩
theorem bnd_assoc {α β γ : Type} (m : M α) (f : α → M β) (g : β → M γ) : bnd (bnd m f) g = bnd m fun a => bnd (f a) g := by
  funext st
  unfold bnd
  cases m st with
  | none => rfl
  | some r => cases r <;> rfl
theorem ce_cmp {op : CmpOp} {f : Cmp} (ho : CmpS X op f) (ha : CE X B W a ma) (hb : CE X B W b mb) (hm : behindInMarks op b = false) : CE X B W (.Compare a [op] [b] pos) (eB (tCmp f ma mb)) := by
  obtain ⟨r, hr, hs⟩ := ho
  refine PE.imp (pe_cmpR hr ha hb hm) ?_
  rintro σ H Q ⟨μ, st, env, n, r, h, hq⟩
  have h' : bnd (ma env) (fun x => bnd (mb env) fun y => bnd (look fun st => f st x y) fun k => ret (.bl k)) st = some r := by
    have e : eB (tCmp f ma mb) env = bnd (ma env) (fun x => bnd (mb env) fun y => bnd (look fun st => f st x y) fun k => ret (.bl k)) := by
      unfold eB tCmp
      rw [bnd_assoc]
      congr 1
      funext x
      rw [bnd_assoc]
    rw [← e]; exact h
  refine first n h' (res_ex hq) fun d st1 μ1 H1 v h1 s1 n1 r1 => ?_
  refine first n1 h1 (res_ex hq) fun d2 st2 μ2 H2 u h2 s2 n2 r2 => ?_
  rcases bnd_inv h2 with ⟨k, st3, e, h⟩ | ⟨x, st3, e, rfl⟩
  · obtain ⟨k', e3, z⟩ := look_inv e
    cases z
    cases ret_inv h
    exact hs n2.rel (r1.step n1.rel s2) r2 e3 (hq _ _ _ (s1.trans n1.rel s2) n2.rel (.bl k))
  · obtain ⟨k', e3, z⟩ := look_inv e
    cases z
theorem ct_chain {op op' : CmpOp} {f g : Cmp} (ho : CmpS X op f) (ho' : CmpS X op' g) (ha : CE X B W a ma) (hb : CE X B W b mb) (hc : CE X B W c mc) (hm : lastMarks [op, op'] [b, c] = false := by with_unfolding_all rfl) :
    CT X B W (.Compare a [op, op'] [b, c] pos) (tChain f g ma mb mc) := by
  obtain ⟨r, hr, hs⟩ := ho
  obtain ⟨r', hr', hs'⟩ := ho'
  refine PT.imp (pt_chain hr hr' ha hb hc hm) ?_
  rintro σ H Q ⟨μ, st, env, n, r, h, hq⟩
  refine first n h (resT_ex hq) fun d st1 μ1 H1 v h1 s1 n1 r1 => ?_
  refine first n1 h1 (resT_ex hq) fun d2 st2 μ2 H2 u h2 s2 n2 r2 => ?_
  rcases bnd_inv h2 with ⟨k, st3, e, h⟩ | ⟨x, st3, e, rfl⟩
  · obtain ⟨k', e3, z⟩ := look_inv e
    cases z
    refine hs n2.rel (r1.step n1.rel s2) r2 e3 ⟨k, rfl, ?_⟩
    cases k with
    | false =>
      rw [if_neg Bool.false_ne_true] at h ⊢
      cases ret_inv h
      exact ⟨false, rfl, hq _ _ (s1.trans n1.rel s2) n2.rel⟩
    | true =>
      rw [if_pos rfl] at h ⊢
      refine first n2 h (resT_ex hq) fun d3 st3 μ3 H3 u3 h3 s3 n3 r3 => ?_
      obtain ⟨k', e4, rfl⟩ := look_inv h3
      exact hs' n3.rel (r2.step n2.rel s3) r3 e4 ⟨k', rfl, hq _ _ ((s1.trans n1.rel s2).trans n2.rel s3) n3.rel⟩
  · obtain ⟨k', e3, z⟩ := look_inv e
    cases z
theorem ce_chain {op op' : CmpOp} {f g : Cmp} (ho : CmpS X op f) (ho' : CmpS X op' g) (ha : CE X B W a ma) (hb : CE X B W b mb) (hc : CE X B W c mc) (hm : lastMarks [op, op'] [b, c] = false := by with_unfolding_all rfl) :
    CE X B W (.Compare a [op, op'] [b, c] pos) (eB (tChain f g ma mb mc)) := by
  obtain ⟨r, hr, hs⟩ := ho
  obtain ⟨r', hr', hs'⟩ := ho'
  refine PE.imp (pe_chain hr hr' ha hb hc hm) ?_
  rintro σ H Q ⟨μ, st, env, n, r, h, hq⟩
  have h' : bnd (ma env) (fun x => bnd (mb env) fun y => bnd (look fun st => f st x y) fun k => bnd (if k then bnd (mc env) fun z => look fun st => g st y z else ret false) fun k => ret (.bl k)) st = some r := by
    have e : eB (tChain f g ma mb mc) env = bnd (ma env) (fun x => bnd (mb env) fun y => bnd (look fun st => f st x y) fun k => bnd (if k then bnd (mc env) fun z => look fun st => g st y z else ret false) fun k => ret (.bl k)) := by
      unfold eB tChain
      rw [bnd_assoc]
      congr 1
      funext x
      rw [bnd_assoc]
      congr 1
      funext y
      rw [bnd_assoc]
    rw [← e]; exact h
  refine first n h' (res_ex hq) fun d st1 μ1 H1 v h1 s1 n1 r1 => ?_
  refine first n1 h1 (res_ex hq) fun d2 st2 μ2 H2 u h2 s2 n2 r2 => ?_
  rcases bnd_inv h2 with ⟨k, st3, e, h⟩ | ⟨x, st3, e, rfl⟩
  · obtain ⟨k', e3, z⟩ := look_inv e
    cases z
    refine hs n2.rel (r1.step n1.rel s2) r2 e3 ⟨k, rfl, ?_⟩
    cases k with
    | false =>
      rw [if_neg Bool.false_ne_true]
      rw [if_neg Bool.false_ne_true] at h
      rcases bnd_inv h with ⟨k, st4, e, h⟩ | ⟨x, st4, e, rfl⟩
      · cases ret_inv e
        cases ret_inv h
        exact hq _ _ _ (s1.trans n1.rel s2) n2.rel (.bl _)
      · cases ret_inv e
    | true =>
      rw [if_pos rfl]
      rw [if_pos rfl, bnd_assoc] at h
      refine first n2 h (res_ex hq) fun d3 st3 μ3 H3 u3 h3 s3 n3 r3 => ?_
      rcases bnd_inv h3 with ⟨k, st4, e, h⟩ | ⟨x, st4, e, rfl⟩
      · obtain ⟨k', e4, z⟩ := look_inv e
        cases z
        cases ret_inv h
        exact hs' n3.rel (r2.step n2.rel s3) r3 e4 (hq _ _ _ ((s1.trans n1.rel s2).trans n2.rel s3) n3.rel (.bl k))
      · obtain ⟨k', e3, z⟩ := look_inv e
        cases z
  · obtain ⟨k', e3, z⟩ := look_inv e
    cases z
/-- and, or, not of tests -/
theorem ct_and {rest : List Expr} (ha : CT X B W a ta) (hb : PW X (.BoolOp .And (b :: rest) pos) (tMT X.K ⟨X.mg, B.ρ⟩ B W tb)) : PW X (.BoolOp .And (a :: b :: rest) pos) (tMT X.K ⟨X.mg, B.ρ⟩ B W (tAnd ta tb)) := by
  refine ⟨fun wh pins s σ H Q I hw => (pw_and ha hb).run wh pins s σ H Q I ?_⟩
  obtain ⟨μ, st, env, n, r, h, hq⟩ := hw
  refine firstT n h (resT_ex hq) fun k st1 μ1 H1 h1 s1 n1 => ?_
  cases k with
  | false =>
    rw [if_neg Bool.false_ne_true]
    rw [if_neg Bool.false_ne_true] at h1
    cases ret_inv h1
    exact hq _ _ s1 n1.rel
  | true =>
    rw [if_pos rfl]
    rw [if_pos rfl] at h1
    refine ⟨μ1, st1, env, n1, r, h1, ?_⟩
    cases r with
    | ok k st2 => exact fun μ' H' s R => hq μ' H' (s1.trans n1.rel s) R
    | ex x st2 => exact hq
theorem ct_or {rest : List Expr} (ha : CT X B W a ta) (hb : PW X (.BoolOp .Or (b :: rest) pos) (tMT X.K ⟨X.mg, B.ρ⟩ B W tb)) : PW X (.BoolOp .Or (a :: b :: rest) pos) (tMT X.K ⟨X.mg, B.ρ⟩ B W (tOr ta tb)) := by
  refine ⟨fun wh pins s σ H Q I hw => (pw_or ha hb).run wh pins s σ H Q I ?_⟩
  obtain ⟨μ, st, env, n, r, h, hq⟩ := hw
  refine firstT n h (resT_ex hq) fun k st1 μ1 H1 h1 s1 n1 => ?_
  cases k with
  | true =>
    rw [if_pos rfl]
    rw [if_pos rfl] at h1
    cases ret_inv h1
    exact hq _ _ s1 n1.rel
  | false =>
    rw [if_neg Bool.false_ne_true]
    rw [if_neg Bool.false_ne_true] at h1
    refine ⟨μ1, st1, env, n1, r, h1, ?_⟩
    cases r with
    | ok k st2 => exact fun μ' H' s R => hq μ' H' (s1.trans n1.rel s) R
    | ex x st2 => exact hq
theorem ct_and1 (ha : CT X B W a ta) : PW X (.BoolOp .And [a] pos) (tMT X.K ⟨X.mg, B.ρ⟩ B W ta) := pw_and1 ha
theorem ct_or1 (ha : CT X B W a ta) : PW X (.BoolOp .Or [a] pos) (tMT X.K ⟨X.mg, B.ρ⟩ B W ta) := pw_or1 ha
theorem ct_w (h : PW X e (tMT X.K ⟨X.mg, B.ρ⟩ B W t)) : CT X B W e t := h.pt
theorem ct_not (ha : CT X B W a ta) : CT X B W (.UnaryOp .Not a pos) (tNot ta) := by
  refine PT.imp (pt_not ha) ?_
  rintro σ H Q ⟨μ, st, env, n, r, h, hq⟩
  refine firstT n h (resT_ex hq) fun k st1 μ1 H1 h1 s1 n1 => ?_
  cases ret_inv h1
  exact hq _ _ s1 n1.rel
/-- a truth value as a test -/
theorem ct_val (h : CE X B W e m) (he : ∀ whole, isTrue e X.env whole = (do let v ← whole; standAt e.pos; holding [v] (truthy v)) := by intro _; rfl) : CT X B W e (tE m) := by
  refine PT.imp (pt_val h he) ?_
  rintro σ H Q ⟨μ, st, env, n, r, h, hq⟩
  refine first n h (resT_ex hq) fun d st1 μ1 H1 v h1 s1 n1 r1 => ?_
  obtain ⟨k, e, rfl⟩ := need_inv h1
  cases d <;> simp only at e <;> try (cases e; done)
  cases e
  cases r1
  exact ⟨_, rfl, hq _ _ s1 n1.rel⟩
theorem ce_if (hc : CT X B W c t) (ha : CE X B W a ma) (hb : CE X B W b mb) : CE X B W (.IfExp c a b pos) (eIf t ma mb) := by
  refine PE.imp (pe_ifExp hc ha hb) ?_
  rintro σ H Q ⟨μ, st, env, n, r, h, hq⟩
  refine firstT n h (res_ex hq) fun k st1 μ1 H1 h1 s1 n1 => ?_
  have go : ∀ {m : E}, m env st1 = some r → tM X.K ⟨X.mg, B.ρ⟩ B W m σ H1 Q := fun {m} hm => by
    refine ⟨μ1, st1, env, n1, r, hm, ?_⟩
    cases r with
    | ok k st2 => exact fun μ' H' v s R rd => hq μ' H' v (s1.trans n1.rel s) R rd
    | ex x st2 => exact hq
  cases k with
  | true =>
    rw [if_pos rfl]
    rw [if_pos rfl] at h1
    exact go h1
  | false =>
    rw [if_neg Bool.false_ne_true]
    rw [if_neg Bool.false_ne_true] at h1
    exact go h1
/-- and, or of truth values as a value -/
theorem ce_one {op : BoolOp} (h : CE X B W a m) : CE X B W (.BoolOp op [a] pos) m := pe_one h
theorem ce_and {rest : List Expr} (ha : CE X B W a ma) (hb : CE X B W (.BoolOp .And (b :: rest) pos) mb) : CE X B W (.BoolOp .And (a :: b :: rest) pos) (eAnd ma mb) := by
  refine PE.imp (pe_and ha hb) ?_
  rintro σ H Q ⟨μ, st, env, n, r, h, hq⟩
  refine first n h (res_ex hq) fun d st1 μ1 H1 v h1 s1 n1 r1 => ?_
  have go : ∀ {m : E}, m env st1 = some r → tM X.K ⟨X.mg, B.ρ⟩ B W m σ H1 Q := fun {m} hm => by
    refine ⟨μ1, st1, env, n1, r, hm, ?_⟩
    cases r with
    | ok k st2 => exact fun μ' H' v s R rd => hq μ' H' v (s1.trans n1.rel s) R rd
    | ex x st2 => exact hq
  split at h1
  · cases r1
    exact ⟨true, rfl, by rw [if_pos rfl]; exact go h1⟩
  · cases r1
    cases ret_inv h1
    exact ⟨false, rfl, by rw [if_neg Bool.false_ne_true]; exact hq _ _ _ s1 n1.rel (.bl _)⟩
  · cases h1
theorem ce_or {rest : List Expr} (ha : CE X B W a ma) (hb : CE X B W (.BoolOp .Or (b :: rest) pos) mb) : CE X B W (.BoolOp .Or (a :: b :: rest) pos) (eOr ma mb) := by
  refine PE.imp (pe_or ha hb) ?_
  rintro σ H Q ⟨μ, st, env, n, r, h, hq⟩
  refine first n h (res_ex hq) fun d st1 μ1 H1 v h1 s1 n1 r1 => ?_
  have go : ∀ {m : E}, m env st1 = some r → tM X.K ⟨X.mg, B.ρ⟩ B W m σ H1 Q := fun {m} hm => by
    refine ⟨μ1, st1, env, n1, r, hm, ?_⟩
    cases r with
    | ok k st2 => exact fun μ' H' v s R rd => hq μ' H' v (s1.trans n1.rel s) R rd
    | ex x st2 => exact hq
  split at h1
  · cases r1
    exact ⟨false, rfl, by rw [if_neg Bool.false_ne_true]; exact go h1⟩
  · cases r1
    cases ret_inv h1
    exact ⟨true, rfl, by rw [if_pos rfl]; exact hq _ _ _ s1 n1.rel (.bl _)⟩
  · cases h1
theorem ce_not (ha : CE X B W a ma) : CE X B W (.UnaryOp .Not a pos) (eB (tNot (tE ma))) := by
  refine PE.imp (pe_not ha) ?_
  rintro σ H Q ⟨μ, st, env, n, r, h, hq⟩
  have h' : bnd (ma env) (fun d => bnd (need (match d with | .bl b => some b | _ => none)) fun x => bnd (ret (!x)) fun b => ret (.bl b)) st = some r := by
    have e : eB (tNot (tE ma)) env = bnd (ma env) (fun d => bnd (need (match d with | .bl b => some b | _ => none)) fun x => bnd (ret (!x)) fun b => ret (.bl b)) := by
      unfold eB tNot tE
      rw [bnd_assoc, bnd_assoc]
      try rfl
    rw [← e]; exact h
  refine first n h' (res_ex hq) fun d st1 μ1 H1 v h1 s1 n1 r1 => ?_
  rcases bnd_inv h1 with ⟨k, st3, e, h⟩ | ⟨x, st3, e, rfl⟩
  · obtain ⟨k', e3, z⟩ := need_inv e
    cases z
    cases d <;> simp only at e3 <;> try (cases e3; done)
    cases e3
    rcases bnd_inv h with ⟨k, st4, e, h⟩ | ⟨x, st4, e, rfl⟩
    · cases ret_inv e
      cases ret_inv h
      cases r1
      exact ⟨_, rfl, hq _ _ _ s1 n1.rel (.bl _)⟩
    · cases ret_inv e
  · obtain ⟨k', e3, z⟩ := need_inv e
    cases z
end
end Mi

set_option Elab.async false
set_option linter.all false
set_option autoImplicit false
set_option maxRecDepth 100000
set_option maxHeartbeats 1000000
/-! Mi: built-ins, subscripts, slices. -/
namespace Mi
open PySem PySem.Spec PyProof.Rows L2
section
variable {K : PySem.W.Frag} {mg : Ctx} {μ : List Addr} {H : Hp} {st : Store}
/-- the items of a list, a tuple -/
theorem seq_of (R : Rel K mg μ st H) {u : V} {y : D} {ds : List D} (r : RD K mg μ H u y) (h : seqOf st y = some ds) : ∃ a vs, u = .ref a ∧ (SqL K H a vs ∨ SqT K H a vs) ∧ RDs K mg μ H vs ds := by
  cases y <;> simp only [seqOf] at h <;> try (cases h; done)
  · cases h
    cases r with
    | tup ha r => exact ⟨_, _, rfl, .inr (SqT.of ha), r⟩
  · cases h
    cases r with
    | lst _ _ ha r => exact ⟨_, _, rfl, .inl (SqL.of ha), r⟩
  · cases h
    cases r with
    | rol ha r => exact ⟨_, _, rfl, .inl ha.sq, r⟩
  · split at h
    · rename_i es e
      cases h
      cases r with
      | loc hl =>
        obtain ⟨vs, h1, h2⟩ := R.obj _ _ _ hl e
        exact ⟨_, vs, rfl, .inl (SqL.of h1), h2⟩
    · cases h
theorem lst_of (R : Rel K mg μ st H) {u : V} {y : D} {ds : List D} (r : RD K mg μ H u y) (h : lstOf st y = some ds) : ∃ a vs, u = .ref a ∧ H a = some (.lst vs) ∧ RDs K mg μ H vs ds := by
  cases y <;> simp only [lstOf] at h <;> try (cases h; done)
  · cases h
    cases r with
    | lst _ _ ha r => exact ⟨_, _, rfl, ha, r⟩
  · split at h
    · rename_i es e
      cases h
      cases r with
      | loc hl =>
        obtain ⟨vs, h1, h2⟩ := R.obj _ _ _ hl e
        exact ⟨_, vs, rfl, h1, h2⟩
    · cases h
/-- the type's name -/
theorem ty_of (R : Rel K mg μ st H) {u : V} {y : D} {t : String} (r : RD K mg μ H u y) (h : tyOf st y = some t) : TyX K H u (.type t) := by
  cases y <;> simp only [tyOf] at h <;> try (cases h; done)
  · cases h; cases r; exact .base .non
  · cases h; cases r; exact .base (.bl _)
  · cases h; cases r; exact .base (.int _)
  · cases h; cases r; exact .base (.str _)
  · cases h
    cases r with
    | tup ha r => exact .base (.tup ha)
  · cases h
    cases r with
    | lst _ _ ha r => exact .base (.lst ha)
  · cases h
    cases r with
    | rol ha r =>
      rcases ha with ⟨_, _, ha | ⟨o, ha⟩⟩ | ⟨o, its, n, h1, h2, _⟩
      · exact .base (.lst ha)
      · exact .base (.frz ha)
      · exact .kList h1 h2
  · cases h
    cases r with
    | dct ha _ _ r => exact .base (.dK ha)
  · split at h
    · rename_i es e
      cases h
      cases r with
      | loc hl =>
        obtain ⟨vs, h1, h2⟩ := R.obj _ _ _ hl e
        exact .base (.lst h1)
    · cases h
def tyNames : List String := ["NoneType", "bool", "int", "str", "tuple", "list", "dict"]
theorem tyOf_mem {y : D} {t : String} (h : tyOf st y = some t) : t ∈ tyNames := by
  cases y <;> simp only [tyOf] at h <;> try (cases h; done)
  all_goals first
    | (cases h; decide)
    | (split at h <;> cases h; decide)
def clsNames : List String := ["int", "bool", "str", "tuple", "list", "dict"]
theorem kit_isa_all : (tyNames.all fun t => clsNames.all fun c => decide (kitB t c = some (isa t c))) = true := by decide +kernel
theorem kit_isa {t c : String} (ht : t ∈ tyNames) (hc : c ∈ clsNames) : PySem.W.kitOne K (.type t) (.type c) = some (isa t c) :=
  kit_ty (of_decide_eq_true (List.all_eq_true.mp (List.all_eq_true.mp kit_isa_all t ht) c hc))
end

theorem CallR.or {X : Cx} {f : Value} {r r' : List V → Hp → VK → Prop} (h : CallR X f r) (h' : CallR X f r') : CallR X f (fun xs H Q => r xs H Q ∨ r' xs H Q) := by
  intro pins s σ H xs us Q I rx q
  rcases q with q | q
  · exact h pins s σ H xs us Q I rx q
  · exact h' pins s σ H xs us Q I rx q
section
variable {X : Cx} {B : Base} {W : Wish} {a b c e : Expr} {ma mb mc m : E} {pos p p2 : Pos}
/-- f(e) for a built-in f of one argument; f: what comes of the value -/
def CallS (X : Cx) (f : Value) (g : Store → D → Option D) : Prop := ∃ r : List V → Hp → VK → Prop, CallR X f r ∧ ∀ {ρ μ : List Addr} {st : Store} {H : Hp} {v : V} {x d : D} {Q : VK}, Rel X.K ⟨X.mg, ρ⟩ μ st H → RD X.K ⟨X.mg, ρ⟩ μ H v x → g st x = some d →
  (∀ w H', Step μ H μ H' → Rel X.K ⟨X.mg, ρ⟩ μ st H' → RD X.K ⟨X.mg, ρ⟩ μ H' w d → Q w H') → r [v] H Q
def eU' (g : Store → D → Option D) (a : E) : E := fun σ => bnd (a σ) fun x => look fun st => g st x
theorem cs_read {g : Store → D → Option D} {r : List V → Hp → VK → Prop} (hs : ∀ {ρ μ : List Addr} {st : Store} {H : Hp} {v : V} {x d : D} {Q : VK}, Rel X.K ⟨X.mg, ρ⟩ μ st H → RD X.K ⟨X.mg, ρ⟩ μ H v x → g st x = some d →
  (∀ w H', Step μ H μ H' → Rel X.K ⟨X.mg, ρ⟩ μ st H' → RD X.K ⟨X.mg, ρ⟩ μ H' w d → Q w H') → r [v] H Q) : ∀ σ H Q, tM X.K ⟨X.mg, B.ρ⟩ B W (eU' g ma) σ H Q → tCB r (tCons (tM X.K ⟨X.mg, B.ρ⟩ B W ma) tNil) σ H Q := by
  rintro σ H Q ⟨μ, st, env, n, r, h, hq⟩
  refine first n h (res_ex hq) fun d st1 μ1 H1 v h1 s1 n1 r1 => ?_
  obtain ⟨d2, e2, rfl⟩ := look_inv h1
  exact hs n1.rel r1 e2 fun w H' s R rd => hq _ _ _ (s1.trans n1.rel s) R rd
theorem ce_callB {x : Str} {id : String} {g : Store → D → Option D} (hc : CallS X (.builtin id) g) (hg : Gl X x) (hm : X.mg x = none) (hv : bootBuiltins x = some (.builtin id)) (ha : CE X B W a ma) (hn : x ≠ "__name__" := by decide) (hdb : (x == ("__debug__" : Str)) = false := by decide)
    (he : starEach (a :: []) X.env = (false, eval a X.env) :: starEach [] X.env := by rfl) (hpl : (backTo pos (starEach [] X.env)).any (·.1) = false := by rfl) : CE X B W (.Call (.Name x p) [a] [] pos) (eU' g ma) := by
  obtain ⟨r, hr, hs⟩ := hc
  exact PE.imp (pe_callB hr hg hm hv (pa_cons ha pa_nil he) hn hdb he hpl) (cs_read hs)
theorem ce_callTy {x : Str} {id : String} {g : Store → D → Option D} (hc : CallS X (.type id) g) (hg : Gl X x) (hm : X.mg x = none) (hv : bootBuiltins x = some (.type id)) (ha : CE X B W a ma) (hn : x ≠ "__name__" := by decide) (hdb : (x == ("__debug__" : Str)) = false := by decide)
    (he : starEach (a :: []) X.env = (false, eval a X.env) :: starEach [] X.env := by rfl) (hpl : (backTo pos (starEach [] X.env)).any (·.1) = false := by rfl) : CE X B W (.Call (.Name x p) [a] [] pos) (eU' g ma) := by
  obtain ⟨r, hr, hs⟩ := hc
  exact PE.imp (pe_callTy hr hg hm hv (pa_cons ha pa_nil he) hn hdb he hpl) (cs_read hs)
def gLen (st : Store) (x : D) : Option D := match dLen st x with | some n => some (.int n) | none => none
theorem cs_len : CallS X (.builtin "len") gLen := by
  refine ⟨_, call_len, ?_⟩
  intro ρ μ st H v x d Q R rv h q
  unfold gLen at h
  split at h
  · rename_i n e
    cases h
    have fin : ∀ {n : Nat}, LenV X.K v H n → dLen st x = some (n : Int) → ∃ x n, [v] = [x] ∧ LenV X.K x H n ∧ Q (.int n) H := fun {k} hl hk => by
      rw [e] at hk
      cases hk
      exact ⟨v, k, rfl, hl, q _ _ (Step.refl _ _) R (.int _)⟩
    have sq : ∀ {ds}, seqOf st x = some ds → dLen st x = some (ds.length : Int) → ∃ x n, [v] = [x] ∧ LenV X.K x H n ∧ Q (.int n) H := fun {ds} h1 h2 => by
      obtain ⟨a, vs, rfl, hs, r⟩ := seq_of R rv h1
      refine fin (n := ds.length) ?_ h2
      rcases hs with hs | hs
      · exact .inl ⟨vs, hs, r.length.symm⟩
      · exact .inr ⟨vs, hs, r.length.symm⟩
    cases x <;> simp only [dLen, seqOf] at e <;> try (cases e; done)
    · split at e
      · rename_i y hz
        cases e
        cases rv
        exact ⟨_, y.length, rfl, ⟨oklen hz, rfl⟩, q _ _ (Step.refl _ _) R (.int _)⟩
      · cases e
    · exact sq rfl rfl
    · exact sq rfl rfl
    · exact sq rfl rfl
    · split at e
      · rename_i es e1
        exact sq e1 (by unfold dLen; rw [show seqOf st (.loc _) = some es from e1])
      · cases e
  · cases h
def gU (f : D → Option D) (_ : Store) (x : D) : Option D := f x
theorem cs_abs : CallS X (.builtin "abs") (gU uAbs) := by
  refine ⟨_, call_abs, ?_⟩
  intro ρ μ st H v x d Q R rv h q
  cases x <;> simp only [gU, uAbs] at h <;> try (cases h; done)
  cases h; cases rv
  exact ⟨_, rfl, q _ _ (Step.refl _ _) R (.int _)⟩
theorem cs_int : CallS X (.type "int") (gU uInt) := by
  refine ⟨_, call_int1, ?_⟩
  intro ρ μ st H v x d Q R rv h q
  cases x <;> simp only [gU, uInt] at h <;> try (cases h; done)
  · cases h; cases rv
    exact .inr ⟨_, rfl, q _ _ (Step.refl _ _) R (.int _)⟩
  · cases h; cases rv
    exact .inl ⟨_, rfl, q _ _ (Step.refl _ _) R (.int _)⟩
def gTup (st : Store) (x : D) : Option D := match x with
  | .tup ds => some (.tup ds)
  | _ => (match lstOf st x with | some ds => some (.tup ds) | none => none)
theorem cs_tup : CallS X (.type "tuple") Mi.gTup := by
  refine ⟨_, call_tuple_of, ?_⟩
  intro ρ μ st H v x d Q R rv h q
  unfold Mi.gTup at h
  split at h
  · cases h
    cases rv with
    | tup ha r => exact ⟨_, _, rfl, .inr ⟨SqT.of ha, q _ _ (Step.refl _ _) R (.tup ha r)⟩⟩
  · split at h
    · rename_i ds e
      cases h
      obtain ⟨a, vs, rfl, hl, r⟩ := lst_of R rv e
      refine ⟨a, vs, rfl, .inl ⟨SqL.of hl, fun p hp => ?_⟩⟩
      have s : Step μ H μ (upd H p (.tup vs)) := Step.laid hp
      exact q _ _ s (R.laid hp) (.tup upd_same (r.step R s))
    · cases h
/-- list(x): a new list -/
theorem cl_list {x : Str} (hg : Gl X x) (hm : X.mg x = none) (hv : bootBuiltins x = some (.type "list")) (ha : CE X B W a ma) (hn : x ≠ "__name__" := by decide) (hdb : (x == ("__debug__" : Str)) = false := by decide)
    (he : starEach (a :: []) X.env = (false, eval a X.env) :: starEach [] X.env := by rfl) (hpl : (backTo pos (starEach [] X.env)).any (·.1) = false := by rfl) : CL X B W (.Call (.Name x p) [a] [] pos) (lOf ma) := by
  refine PE.imp (pe_callTy call_list_of hg hm hv (pa_cons ha pa_nil he) hn hdb he hpl) ?_
  rintro σ H Q ⟨μ, st, env, n, r, h, hq⟩
  refine first n h (resL_ex hq) fun d st1 μ1 H1 v h1 s1 n1 r1 => ?_
  obtain ⟨ds, e2, rfl⟩ := look_inv h1
  obtain ⟨a, vs, rfl, hs, rs⟩ := seq_of n1.rel r1 e2
  refine ⟨a, vs, rfl, hs, fun l hl => ?_⟩
  obtain ⟨a1, a2, a3, a4, a5⟩ := laid_list n.rel s1 n1.rel rs hl
  exact hq _ _ _ _ a1 a2 a3 a4 a5
/-- two lists, one behind the other -/
theorem cl_add (ha : CE X B W a ma) (hb : CE X B W b mb) : CL X B W (.BinOp a .Add b pos) (lAdd ma mb) := by
  refine PE.imp (pe_op op_cat ha hb) ?_
  rintro σ H Q ⟨μ, st, env, n, r, h, hq⟩
  refine first n h (resL_ex hq) fun d st1 μ1 H1 v h1 s1 n1 r1 => ?_
  refine first n1 h1 (resL_ex hq) fun d2 st2 μ2 H2 u h2 s2 n2 r2 => ?_
  obtain ⟨ds, e, rfl⟩ := look_inv h2
  split at e
  · rename_i xs ys e1 e2
    split at e
    · rename_i hz
      cases e
      obtain ⟨a, vs, rfl, ha, ra⟩ := lst_of n2.rel (r1.step n1.rel s2) e1
      obtain ⟨b, ws, rfl, hb, rb⟩ := lst_of n2.rel r2 e2
      refine ⟨a, b, vs, ws, rfl, rfl, ha, hb, by rw [ra.length, rb.length]; exact oklen hz, fun p hp => ?_⟩
      obtain ⟨a1, a2, a3, a4, a5⟩ := laid_list n.rel (s1.trans n1.rel s2) n2.rel (ra.app rb) hp
      exact hq _ _ _ _ a1 a2 a3 a4 a5
    · cases e
  · cases e

/-! ### min, max of two -/
theorem ce_min2 (hc : X.calm = true) (hg : Gl X "min") (hm : X.mg "min" = none) (ha : CE X B W a ma) (hb : CE X B W b mb)
    (he : starEach (a :: [b]) X.env = (false, eval a X.env) :: starEach [b] X.env := by rfl) (he2 : starEach (b :: []) X.env = (false, eval b X.env) :: starEach [] X.env := by rfl) (hpl : (backTo pos (starEach [b] X.env)).any (·.1) = false := by rfl) :
    CE X B W (.Call (.Name "min" p) [a, b] [] pos) (eBin oMin ma mb) := by
  refine PE.imp (pe_callB (call_min2 hc) hg hm boot_min (pa_cons ha (pa_cons hb pa_nil he2) he) (by decide) (by decide) he hpl) ?_
  rintro σ H Q ⟨μ, st, env, n, r, h, hq⟩
  refine first n h (res_ex hq) fun d st1 μ1 H1 v h1 s1 n1 r1 => ?_
  refine first n1 h1 (res_ex hq) fun d2 st2 μ2 H2 u h2 s2 n2 r2 => ?_
  obtain ⟨d3, e3, rfl⟩ := need_inv h2
  cases d <;> cases d2 <;> simp only [oMin] at e3 <;> try (cases e3; done)
  cases e3; cases r1; cases r2
  exact ⟨_, _, rfl, hq _ _ _ (s1.trans n1.rel s2) n2.rel (.int _)⟩
theorem ce_max2 (hc : X.calm = true) (hg : Gl X "max") (hm : X.mg "max" = none) (ha : CE X B W a ma) (hb : CE X B W b mb)
    (he : starEach (a :: [b]) X.env = (false, eval a X.env) :: starEach [b] X.env := by rfl) (he2 : starEach (b :: []) X.env = (false, eval b X.env) :: starEach [] X.env := by rfl) (hpl : (backTo pos (starEach [b] X.env)).any (·.1) = false := by rfl) :
    CE X B W (.Call (.Name "max" p) [a, b] [] pos) (eBin oMax ma mb) := by
  refine PE.imp (pe_callB (call_max2 hc) hg hm boot_max (pa_cons ha (pa_cons hb pa_nil he2) he) (by decide) (by decide) he hpl) ?_
  rintro σ H Q ⟨μ, st, env, n, r, h, hq⟩
  refine first n h (res_ex hq) fun d st1 μ1 H1 v h1 s1 n1 r1 => ?_
  refine first n1 h1 (res_ex hq) fun d2 st2 μ2 H2 u h2 s2 n2 r2 => ?_
  obtain ⟨d3, e3, rfl⟩ := need_inv h2
  cases d <;> cases d2 <;> simp only [oMax] at e3 <;> try (cases e3; done)
  cases e3; cases r1; cases r2
  exact ⟨_, _, rfl, hq _ _ _ (s1.trans n1.rel s2) n2.rel (.int _)⟩

/-! ### isinstance -/
theorem ce_isi {c : String} {x : Str} (hmem : c ∈ clsNames) (hg : Gl X "isinstance") (hm : X.mg "isinstance" = none) (hgc : Gl X x) (hmc : X.mg x = none) (hvc : bootBuiltins x = some (.type c)) (ha : CE X B W a ma)
    (hnc : x ≠ "__name__" := by decide) (hdc : (x == ("__debug__" : Str)) = false := by decide)
    (he : starEach (a :: [.Name x p2]) X.env = (false, eval a X.env) :: starEach [.Name x p2] X.env := by rfl) (he2 : starEach (.Name x p2 :: []) X.env = (false, eval (.Name x p2) X.env) :: starEach [] X.env := by rfl) (hpl : (backTo pos (starEach [.Name x p2] X.env)).any (·.1) = false := by rfl) :
    CE X B W (.Call (.Name "isinstance" p) [a, .Name x p2] [] pos) (eIsi c ma) := by
  refine PE.imp (pe_callB call_isi hg hm boot_isinstance (pa_cons ha (pa_cons (pe_bltn (v := .ty c) hgc hmc hvc rfl hnc hdc) pa_nil he2) he) (by decide) (by decide) he hpl) ?_
  rintro σ H Q ⟨μ, st, env, n, r, h, hq⟩
  refine first n h (res_ex hq) fun d st1 μ1 H1 v h1 s1 n1 r1 => ?_
  obtain ⟨d3, e3, rfl⟩ := look_inv h1
  unfold dIsi at e3
  cases et : tyOf st1 d with
  | none => rw [et] at e3; cases e3
  | some t =>
    rw [et] at e3
    cases e3
    exact ⟨v, .ty c, .type t, .type c, isa t c, rfl, .ty c, ty_of n1.rel r1 et, kit_isa (tyOf_mem et) hmem, hq _ _ _ s1 n1.rel (.bl _)⟩
theorem ce_isi2 {c c' : String} {x y : Str} {k : Nat} {p3 p4 : Pos} (hmem : c ∈ clsNames) (hmem' : c' ∈ clsNames) (hg : Gl X "isinstance") (hm : X.mg "isinstance" = none) (hgc : Gl X x) (hmc : X.mg x = none) (hvc : bootBuiltins x = some (.type c)) (hgd : Gl X y) (hmd : X.mg y = none) (hvd : bootBuiltins y = some (.type c')) (ha : CE X B W a ma)
    (hnc : x ≠ "__name__" := by decide) (hdc : (x == ("__debug__" : Str)) = false := by decide) (hnd : y ≠ "__name__" := by decide) (hdd : (y == ("__debug__" : Str)) = false := by decide)
    (he : starEach (a :: [.Tuple [.Name x p2, .Name y p3] k p4]) X.env = (false, eval a X.env) :: starEach [.Tuple [.Name x p2, .Name y p3] k p4] X.env := by rfl) (hpl : (backTo pos (starEach [.Tuple [.Name x p2, .Name y p3] k p4] X.env)).any (·.1) = false := by rfl) :
    CE X B W (.Call (.Name "isinstance" p) [a, .Tuple [.Name x p2, .Name y p3] k p4] [] pos) (eIsi2 c c' ma) := by
  refine PE.imp (pe_callB call_isiT hg hm boot_isinstance (pa_cons ha (pa_cons (pe_tup (pa_cons (pe_bltn (v := .ty c) hgc hmc hvc rfl hnc hdc) (pa_cons (pe_bltn (v := .ty c') hgd hmd hvd rfl hnd hdd) pa_nil))) pa_nil) he) (by decide) (by decide) he hpl) ?_
  rintro σ H Q ⟨μ, st, env, n, r, h, hq⟩
  refine first n h (res_ex hq) fun d st1 μ1 H1 v h1 s1 n1 r1 => ?_
  obtain ⟨d3, e3, rfl⟩ := look_inv h1
  unfold dIsi2 at e3
  cases et : tyOf st1 d with
  | none => rw [et] at e3; cases e3
  | some t =>
    rw [et] at e3
    cases e3
    refine ⟨by show 2 ≤ sizeLine; decide, fun q hp => ?_⟩
    have s : Step μ1 H1 μ1 (upd H1 q (.tup [.ty c, .ty c'])) := Step.laid hp
    have R' := n1.rel.laid (o := .tup [.ty c, .ty c']) hp
    refine ⟨v, q, [.ty c, .ty c'], .type t, [.type c, .type c'], isa t c || isa t c', rfl, upd_same, .cons (.ty c) (.cons (.ty c') .nil), ty_of R' (r1.step n1.rel s) et, ?_, hq _ _ _ (s1.trans n1.rel s) R' (.bl _)⟩
    have k1 := kit_isa (K := X.K) (tyOf_mem et) hmem
    have k2 := kit_isa (K := X.K) (tyOf_mem et) hmem'
    refine kitAny_cons k1 (fun e => ?_) (fun e => by rw [e]; rfl)
    rw [e, Bool.false_or]
    exact kitAny_cons k2 (fun e => by rw [e]; exact kitAny_nil) (fun e => e)

/-! ### subscripts, slices -/
theorem atI_rd {K : PySem.W.Frag} {mg : Ctx} {μ : List Addr} {H : Hp} {vs : List V} {ds : List D} {i : Int} {d : D} (r : RDs K mg μ H vs ds) (h : itemAt ds i = some d) : ∃ v, atI vs i = some v ∧ RD K mg μ H v d := by
  unfold itemAt atI at h
  unfold atI
  rw [r.length]
  cases e : ixN ds.length i with
  | none => rw [e] at h; cases h
  | some j =>
    rw [e] at h
    exact r.get h
theorem IxR.or {r r' : R2} (h : IxR X r) (h' : IxR X r') : IxR X (fun x y H Q => r x y H Q ∨ r' x y H Q) := by
  intro va sl pins s σ H x y v u Q I rx ry q hs
  rcases q with q | q
  · exact h va sl pins s σ H x y v u Q I rx ry q hs
  · exact h' va sl pins s σ H x y v u Q I rx ry q hs
theorem ce_ix (ha : CE X B W a ma) (hb : CE X B W b mb) (hs : PlainIx b) : CE X B W (.Subscript a b pos) (eIx ma mb) := by
  refine PE.imp (pe_ix (IxR.or ix_list ix_tup) ha hb hs) ?_
  rintro σ H Q ⟨μ, st, env, n, r, h, hq⟩
  refine first n h (res_ex hq) fun d st1 μ1 H1 v h1 s1 n1 r1 => ?_
  refine first n1 h1 (res_ex hq) fun d2 st2 μ2 H2 u h2 s2 n2 r2 => ?_
  obtain ⟨d3, e3, rfl⟩ := look_inv h2
  unfold dIx at e3
  split at e3
  · rename_i ds k e
    obtain ⟨a, vs, rfl, hsq, rs⟩ := seq_of n2.rel (r1.step n1.rel s2) e
    obtain ⟨w, hw, rw'⟩ := atI_rd rs e3
    cases r2
    rcases hsq with hsq | hsq
    · exact .inl ⟨a, vs, k, w, rfl, rfl, hsq, hw, hq _ _ _ (s1.trans n1.rel s2) n2.rel rw'⟩
    · exact .inr ⟨a, vs, k, w, rfl, rfl, hsq, hw, hq _ _ _ (s1.trans n1.rel s2) n2.rel rw'⟩
  · cases e3
/-- a slice's part -/
abbrev CP (X : Cx) (B : Base) (W : Wish) (e : Option Expr) (m : P) : Prop := PO X e (fun σ H Q => ∃ μ st env, Now X.K ⟨X.mg, B.ρ⟩ B μ st H σ env ∧ ∃ r, m env st = some r ∧ (match r with
  | .ok o st' => ∀ μ' H', Step μ H μ' H' → Rel X.K ⟨X.mg, B.ρ⟩ μ' st' H' → Q o H'
  | .ex x st' => W x env st'))
theorem PO.imp {e : Option Expr} {t t' : TO} (h : PO X e t) (k : ∀ σ H Q, t' σ H Q → t σ H Q) : PO X e t' := ⟨fun pins s σ H Q I hw => h.run pins s σ H Q I (k σ H Q hw)⟩
theorem cp_no : CP X B W none pNo := by
  refine PO.imp po_none ?_
  rintro σ H Q ⟨μ, st, env, n, r, h, hq⟩
  cases ret_inv h
  exact hq _ _ (Step.refl _ _) n.rel
theorem cp_at (ha : CE X B W a ma) : CP X B W (some a) (pAt ma) := by
  refine PO.imp (po_some ha) ?_
  rintro σ H Q ⟨μ, st, env, n, r, h, hq⟩
  have hx : ∀ x st1, r = .ex x st1 → W x env st1 := fun x st1 e => by subst e; exact hq
  refine first n h hx fun d st1 μ1 H1 v h1 s1 n1 r1 => ?_
  obtain ⟨o, e, rfl⟩ := need_inv h1
  cases d <;> simp only at e <;> try (cases e; done)
  cases e; cases r1
  exact ⟨_, rfl, hq _ _ s1 n1.rel⟩
theorem cut_rd {K : PySem.W.Frag} {mg : Ctx} {μ : List Addr} {H : Hp} {vs : List V} {ds : List D} (r : RDs K mg μ H vs ds) (lo hi : Option Int) : RDs K mg μ H (cutV vs lo hi) (cutD ds lo hi) := by
  unfold cutV cutD
  rw [r.length]
  exact (r.drop _).take _
theorem cut_whole {ds : List D} {lo hi : Option Int} (h : HT.sIx ds.length 0 lo = 0 ∧ HT.sIx ds.length ds.length hi = ds.length) : cutD ds lo hi = ds := by
  unfold cutD
  rw [h.1, h.2]
  simp
theorem ce_sl {lo hi : Option Expr} {ml mh : P} (ha : CE X B W a ma) (hl : CP X B W lo ml) (hh : CP X B W hi mh) : CE X B W (.Subscript a (.Slice lo hi none p2) pos) (eSl ma ml mh) := by
  refine PE.imp (pe_slice (SlR.or sl_tupA sl_list) ha hl hh) ?_
  rintro σ H Q ⟨μ, st, env, n, r, h, hq⟩
  refine first n h (res_ex hq) fun d st1 μ1 H1 v h1 s1 n1 r1 => ?_
  rcases bnd_inv h1 with ⟨o1, st2, e1, h2⟩ | ⟨x, st2, e1, rfl⟩
  case inr => exact ⟨μ1, st1, env, n1, _, e1, hq⟩
  refine ⟨μ1, st1, env, n1, _, e1, fun μ2 H2 s2 R2 => ?_⟩
  have n2 := n1.next s2 R2
  rcases bnd_inv h2 with ⟨o2, st3, e2, h3⟩ | ⟨x, st3, e2, rfl⟩
  case inr => exact ⟨μ2, st2, env, n2, _, e2, hq⟩
  refine ⟨μ2, st2, env, n2, _, e2, fun μ3 H3 s3 R3 => ?_⟩
  have n3 := n2.next s3 R3
  have s4 := (s1.trans n1.rel s2).trans n2.rel s3
  have rd := (r1.step n1.rel s2).step n2.rel s3
  obtain ⟨d2, e3, rfl⟩ := look_inv h3
  unfold dSl at e3
  have fresh : ∀ {a : Addr} {vs : List V} {ds : List D}, v = .ref a → SqL X.K H3 a vs → RDs X.K ⟨X.mg, B.ρ⟩ μ3 H3 vs ds → d2 = .lst (cutD ds o1 o2) → rSlL X.K v o1 o2 H3 Q := fun {a vs ds} hv hs rs hd => by
    subst hd
    refine ⟨a, vs, hv, hs, fun p hp => ?_⟩
    obtain ⟨a1, a2, a3, a4, a5⟩ := laid_list n.rel s4 n3.rel (cut_rd rs o1 o2) hp
    exact hq _ _ _ a1 a2.free (.lst (a2.res p List.mem_cons_self).1 (List.nodup_cons.mp a2.rn).1 a4 a5.free)
  split at e3
  · cases e3
    cases rd with
    | @tup a vs ds ha r =>
      refine .inl ⟨a, vs, rfl, SqT.of ha, fun hw => ?_, fun _ p hp => ?_⟩
      · rw [r.length] at hw
        rw [cut_whole hw] at hq
        exact hq _ _ _ s4 n3.rel (.tup ha r)
      · have s : Step μ3 H3 μ3 (upd H3 p (.tup (cutV vs o1 o2))) := Step.laid hp
        exact hq _ _ _ (s4.trans n3.rel s) (n3.rel.laid hp) (.tup upd_same ((cut_rd r o1 o2).step n3.rel s))
  · cases e3
    cases rd with
    | lst _ _ ha r => exact .inr (fresh rfl (SqL.of ha) r rfl)
  · cases e3
    cases rd with
    | rol ha r => exact .inr (fresh rfl ha.sq r rfl)
  · split at e3
    · rename_i es e
      cases e3
      cases rd with
      | loc hl =>
        obtain ⟨vs, h1, h2⟩ := n3.rel.obj _ _ _ hl e
        exact .inr (fresh rfl (SqL.of h1) h2 rfl)
    · cases e3
  · cases e3
end
end Mi

set_option Elab.async false
set_option linter.all false
set_option autoImplicit false
set_option maxRecDepth 100000
set_option maxHeartbeats 2000000
/-! Mi: enumerate over a tuple. -/
namespace PySem
open Sem (wp)
open AutoSeq1 (wpAny_loadPart')
theorem meets_enumerate_newTup (l : Addr) (items : Array Value) (n : Nat) (dct : Option Addr) (sl : Array (Option Value)) :
    Meets (Builtin.«enumerate.__new__» ⟨[.type "enumerate", .ref l], []⟩) (fun _ R s => s.heap.get? l = some { cls := .type "tuple", dict := dct, data := .seq items n, slots := sl } ∧
      R (.ok (.ret (.ref (s.heap.push { cls := .type "tuple_iterator", data := .fields #[.ref l, .int 0 0] }).objs.size)))
        { s with heap := (s.heap.push { cls := .type "tuple_iterator", data := .fields #[.ref l, .int 0 0] }).push { cls := .type "enumerate", data := .fields #[.none, .bool false, .ref s.heap.objs.size, rawInt 0, .none, .none] } }) :=
  .of_wp fun prog w A R s h => by
    obtain ⟨hp, g, d, tk, os⟩ := s; obtain ⟨hl, h⟩ := h
    have hsub := sub_enumerate
    have hL : Heap.IsTuple (Shared.heap ⟨hp, g, d, tk, os⟩) l items := ⟨_, hl, rfl, n, rfl⟩
    wp_walk using wpAny_loadPart' hl
    refine wpAny_stack_any fun st => wpAny_pure ?_
    split
    · rename_i c _ _ _ _ _
      cases (c == Value.type "enumerate")
      · wp_walk using wpAny_loadPart' hl, wpAny_pyIter_tuple hL
        exact ⟨_, rfl, h⟩
      · wp_walk using wpAny_loadPart' hl, wpAny_pyIter_tuple hL
        exact ⟨_, rfl, h⟩
    · wp_walk using wpAny_loadPart' hl, wpAny_pyIter_tuple hL
      exact ⟨_, rfl, h⟩
section
variable {prog : Program} {w : World} {A : Around} {E : Value → Shared → Prop} {s : Shared}
theorem call_enumerate_tup {l : Addr} {items : Array Value} {Q : Value → Shared → Prop} (hL : s.heap.IsTuple l items)
    (h : ∀ h', IsEnum h' (s.heap.objs.size + 1) s.heap.objs.size 0 .none → h'.IsTupleIter s.heap.objs.size l 0 → h'.objs.size = s.heap.objs.size + 2 →
      (∀ b o, s.heap.get? b = some o → h'.get? b = some o) → Q (.ref (s.heap.objs.size + 1)) { s with heap := h' }) :
    wpAny (model prog w) A (call (.type "enumerate") [.ref l]) Q E s := by
  obtain ⟨⟨c, dct, dt, sl⟩, hl, hc, n, hd⟩ := hL
  replace hc : c = .type "tuple" := hc
  replace hd : dt = .seq items n := hd
  subst hc hd
  refine callType_new F.called_enumerate (by decide) (F.typeCall_enumerate_1 _) (F.newCall_enumerate_1 _) (fun obj => F.args_object_init_2 obj _) F.entry_enumerate_new
    (meets_enumerate_newTup l items n dct sl) ⟨hl, ?_⟩
  have hz : (s.heap.push { cls := .type "tuple_iterator", data := .fields #[.ref l, .int 0 0] }).objs.size = s.heap.objs.size + 1 := Heap.size_push ..
  show _ ∧ _
  rw [hz]
  have he : IsEnum ((s.heap.push { cls := .type "tuple_iterator", data := .fields #[.ref l, .int 0 0] }).push
      { cls := .type "enumerate", data := .fields #[.none, .bool false, .ref s.heap.objs.size, rawInt 0, .none, .none] }) (s.heap.objs.size + 1) s.heap.objs.size 0 .none := by
    have := Heap.get?_push_size (s.heap.push { cls := .type "tuple_iterator", data := .fields #[.ref l, .int 0 0] })
      (o := { cls := .type "enumerate", data := .fields #[.none, .bool false, .ref s.heap.objs.size, rawInt 0, .none, .none] }) rfl
    rw [hz] at this; exact this
  refine ⟨⟨_, he, rfl⟩, h _ he ⟨_, Heap.get?_push_of_some _ (Heap.get?_push_size _ rfl), rfl, rfl⟩ (by rw [Heap.size_push, hz]) fun b o x => Heap.get?_push_of_some _ (Heap.get?_push_of_some _ x)⟩
end
end PySem
namespace L2
open PySem PySem.Spec PyProof.Rows
/-- the tuple at a, its items in new pairs -/
def IteT (K : PySem.W.Frag) (a : Addr) : It :=
  ⟨fun i H => ∃ (xs : List V) (x : V), SqT K H a xs ∧ xs[i]? = some x, fun i H v H' => ∃ T x, v = .ref T ∧ H T = none ∧ H' = upd H T (.tup [.int (i : Nat), x]) ∧ ∀ xs, SqT K H a xs → xs[i]? = some x, fun i H => ∃ xs : List V, SqT K H a xs ∧ xs.length = i⟩
theorem turn_enumT {P : Program} {w : World} {K : PySem.W.Frag} {elts : List Expr} {kk : Nat} {tpos : Pos} (a e it : Addr) :
    Turn P w K (.Tuple elts kk tpos) (IteT K a) [e, it] e (fun i h => (∃ old, IsEnum h e it ((i : Nat) : Int) old) ∧ h.IsTupleIter it a i ∧ e ≠ it) where
  mem := by simp
  obj := fun i h st b hb => by
    obtain ⟨⟨old, he⟩, ⟨o, ho, hc, hd⟩, _⟩ := st
    have e' : b = e ∨ b = it := by simpa using hb
    rcases e' with z | z
    · rw [z]; exact ⟨_, he, fun v q => nomatch q⟩
    · rw [z]; exact ⟨o, ho, fun v q => by rw [hd] at q; cases q⟩
  keep := fun i h h' st k => let ⟨⟨old, he⟩, hi, hne⟩ := st; ⟨⟨old, k e (by simp) _ he⟩, hi.at fun o q => k it (by simp) o q, hne⟩
  item := by
    intro X hP hw hK hc i pins s σ H E I hf st hg
    subst hP hw hK
    obtain ⟨⟨old, he⟩, hit, hne⟩ := st
    obtain ⟨xs, x, hq, hx⟩ := hg
    obtain ⟨its, rv, p, hz⟩ := I.tuple hq
    obtain ⟨u, hu, ru⟩ := rv.get hx
    have hel : e < s.heap.objs.size := Heap.lt_size he
    have hil : it < s.heap.objs.size := by obtain ⟨_, q, _⟩ := hit; exact Heap.lt_size q
    have hai : a ≠ it := fun z => by
      obtain ⟨o, ho, hc, _⟩ := hit
      obtain ⟨o2, ho2, hc2, _⟩ := id p
      rw [z, ho] at ho2; cases ho2
      rw [hc] at hc2; exact absurd (Value.type.inj hc2) (by decide)
    have hea : e ∉ [it, a] := fun z => by
      have z' : e = it ∨ e = a := by simpa using z
      rcases z' with z | z
      · exact hne z
      · obtain ⟨o2, ho2, hc2, _⟩ := id p
        have he' : s.heap.get? e = some _ := he
        rw [z, ho2] at he'; cases he'
        exact absurd (Value.type.inj hc2) (by decide)
    have hin : i < its.toArray.size := by
      have q := (List.getElem?_eq_some_iff.mp hu).1
      simpa using q
    refine wpAny_pyNext_enum_itemD (Draws.tuple (A := X.A.in1) (I.ok.hd hc) it a hai its.toArray) he ⟨hit, p⟩ hin hne hea fun v h' tk hP ho hit' hT hsz hk => ?_
    have hv : v = u := by
      have e1 : its.toArray[i]? = some u := by simpa using hu
      rw [e1] at hP; exact (Option.some.inj hP).symm
    subst hv
    refine ⟨_, rfl, wpAny_letOwnedTupleGo_enum (s := { s with heap := h', toks := tk + 1 }) ho fun h'' he' sb => ?_⟩
    have hT2 : h''.get? s.heap.objs.size = some { cls := .type "tuple", data := .seq #[.int i tk, v] } := (sb.2 _ (Nat.ne_of_gt hel)).trans hT
    have new : ObjOk X.prog X.w (upd H s.heap.objs.size (.tup [.int (i : Nat), x])) h'' s.heap.objs.size (.tup [.int (i : Nat), x]) :=
      ⟨by show 2 ≤ sizeLine; decide, [.int i tk, v], .cons ⟨_, rfl⟩ (.cons ru .nil), ⟨_, hT2, rfl, _, rfl⟩⟩
    have I1 : Inv X pins σ (upd H s.heap.objs.size (.tup [.int (i : Nat), x])) { s with heap := h'', toks := tk + 1 } :=
      I.turnedNew (ch := [e, it]) (fun b ob hb q => (sb.2 b (fun z => hb (by simp [z]))).trans (hk b ob (fun z => hb (by simp [z])) (fun z => hb (by simp [z])) q)) hf (Nat.le_refl _) new
    refine ⟨.ref s.heap.objs.size, _, I1, rfl, ⟨_, x, rfl, I.hok.fresh (Nat.le_refl _), rfl, fun ys hy => by rw [I.tuple_inj hy hq]; exact hx⟩, ⟨⟨v, ?_⟩, hit'.1.at fun o q => (sb.2 it (Ne.symm hne)).trans q, hne⟩, fun b hb => ?_⟩
    · have e1 : ((i + 1 : Nat) : Int) = (i : Int) + 1 := by omega
      rw [e1]; exact he'
    · have hb' : b < s.heap.objs.size := by
        have e' : b = e ∨ b = it := by simpa using hb
        rcases e' with z | z
        · rw [z]; exact hel
        · rw [z]; exact hil
      rw [upd_ne (Nat.ne_of_lt hb')]
      exact (hf b hb).1
  done := by
    intro X hP hw hK hc i pins s σ H E I hf st hg
    subst hP hw hK
    obtain ⟨⟨old, he⟩, hit, hne⟩ := st
    obtain ⟨xs, hq, hx⟩ := hg
    obtain ⟨its, rv, p, hz⟩ := I.tuple hq
    obtain ⟨f0, f1, f2, f3, f4, f5⟩ := hf it (by simp)
    have hl := rv.length
    have hai : a ≠ it := fun z => by
      obtain ⟨o, ho, hc, _⟩ := hit
      obtain ⟨o2, ho2, hc2, _⟩ := id p
      rw [z, ho] at ho2; cases ho2
      rw [hc] at hc2; exact absurd (Value.type.inj hc2) (by decide)
    have hn : i = its.toArray.size := by simp; omega
    subst hn
    exact wpAny_pyNext_enum_endD (Draws.tuple (A := X.A.in1) (I.ok.hd hc) it a hai its.toArray) he ⟨hit, p⟩ fun h' eb => ⟨rfl, I.turned (t' := s.toks) (fun b o hb q => eb b o hb q) f0 f1 f3 f4 f5⟩
  self := fun A i s Q E st h => let ⟨⟨_, he⟩, _⟩ := st; wpAny_pyIter_enum he h
/-- enumerate(x), x a list or a tuple -/
def iEnumA (K : PySem.W.Frag) (ta : TA) : TI := fun σ H R => ta σ H fun vs H1 => ∃ a xs, vs = [.ref a] ∧ ((SqL K H1 a xs ∧ R (Ite K a) H1) ∨ (SqT K H1 a xs ∧ R (IteT K a) H1))
theorem pi_enumA {X : Cx} {e : Expr} {ta : TA} {p pos tpos : Pos} {elts : List Expr} {kk : Nat} (hg : Gl X "enumerate") (hm : X.mg "enumerate" = none) (ha : PA X [e] ta) (hs : starEach [e] X.env = [(false, eval e X.env)] := by rfl) :
    PI X (.Tuple elts kk tpos) (.Call (.Name "enumerate" p) [e] [] pos) (iEnumA X.K ta) := by
  refine ⟨fun pins s σ H R I h => ?_⟩
  refine Call_ (ld_blt I hg hm boot_enumerate (PyProof.Rows.callWith_type1 (thn (ha.run pos pins s σ H _ I h) fun us s1 ⟨vs, H1, I1, r1, q1⟩ => ?_) hs rfl))
  obtain ⟨a, xs, ex, q⟩ := q1
  subst ex
  cases r1 with
  | cons r rr =>
    cases rr
    cases r
    have fr : ∀ b ∈ [s1.heap.objs.size + 1, s1.heap.objs.size], FpOk X pins H1 b := fun b hb => by
      have e' : b = s1.heap.objs.size + 1 ∨ b = s1.heap.objs.size := by simpa using hb
      have hle : s1.heap.objs.size ≤ b := by
        rcases e' with z | z
        · rw [z]; exact Nat.le_add_right _ _
        · rw [z]; exact Nat.le_refl _
      exact I1.fpOk hle (I1.hok.fresh hle)
    rcases q with ⟨hq, q⟩ | ⟨hq, q⟩
    · obtain ⟨its, rv, p', hz⟩ := I1.list hq
      refine call_enumerate_list p'.isList fun h' he hit hsz hk => wpAny_pyIter_enum he ?_
      have I2 : Inv X pins σ H1 { s1 with heap := h' } := I1.kept (t' := s1.toks) hk
      exact ⟨s1.heap.objs.size + 1, [s1.heap.objs.size + 1, s1.heap.objs.size], _, _, H1, rfl, I2, turn_enum a (s1.heap.objs.size + 1) s1.heap.objs.size, ⟨⟨.none, he⟩, hit, Nat.succ_ne_self _⟩, fr, q⟩
    · obtain ⟨its, rv, p', hz⟩ := I1.tuple hq
      refine call_enumerate_tup p' fun h' he hit hsz hk => wpAny_pyIter_enum he ?_
      have I2 : Inv X pins σ H1 { s1 with heap := h' } := I1.kept (t' := s1.toks) hk
      exact ⟨s1.heap.objs.size + 1, [s1.heap.objs.size + 1, s1.heap.objs.size], _, _, H1, rfl, I2, turn_enumT a (s1.heap.objs.size + 1) s1.heap.objs.size, ⟨⟨.none, he⟩, hit, Nat.succ_ne_self _⟩, fr, q⟩
end L2

set_option Elab.async false
set_option linter.all false
set_option autoImplicit false
set_option maxRecDepth 100000
set_option maxHeartbeats 2000000
/-! Mi: what loops and comprehensions walk; comprehensions. -/
namespace Mi
open PySem PySem.Spec PyProof.Rows L2
/-- an item that is handed out: a value, or a new tuple of values -/
inductive Item where
  | one (v : V)
  | tup (vs : List V)
def Hands (H : Hp) : Item → V → Hp → Prop
  | .one v, x, H' => x = v ∧ H' = H
  | .tup vs, x, H' => ∃ p, x = .ref p ∧ H p = none ∧ H' = upd H p (.tup vs)
def ItR (K : PySem.W.Frag) (mg : Ctx) (μ : List Addr) (H : Hp) : Item → D → Prop
  | .one v, d => RD K mg μ H v d
  | .tup vs, d => ∃ ds, d = .tup ds ∧ RDs K mg μ H vs ds
inductive ItsR (K : PySem.W.Frag) (mg : Ctx) (μ : List Addr) (H : Hp) : List Item → List D → Prop where
  | nil : ItsR K mg μ H [] []
  | cons {t : Item} {d : D} {ts : List Item} {ds : List D} : ItR K mg μ H t d → ItsR K mg μ H ts ds → ItsR K mg μ H (t :: ts) (d :: ds)
def Kp (μ : List Addr) (H H' : Hp) : Prop := ∀ a o, H a = some o → a ∉ μ → H' a = some o
def SrcR (K : PySem.W.Frag) (mg : Ctx) (μ : List Addr) (H : Hp) (J : It) : Src → Prop
  | .fix ds => ∃ its, ItsR K mg μ H its ds ∧ ∀ H2, Kp μ H H2 → ∀ i, (∀ t, its[i]? = some t → J.go i H2 ∧ ∀ x H3, J.yld i H2 x H3 → Hands H2 t x H3) ∧ (its.length = i → J.stop i H2)
  | .live l _ => ∃ a, μ[l]? = some a ∧ J = Itl K a
section
variable {K : PySem.W.Frag} {mg : Ctx} {μ μ' : List Addr} {H H' : Hp} {st : Store}
theorem Step.kp (s : Step μ H μ' H') : Kp μ H H' := s.keep
theorem ItR.step (R : Rel K mg μ st H) (s : Step μ H μ' H') {t : Item} {d : D} (h : ItR K mg μ H t d) : ItR K mg μ' H' t d := by
  cases t with
  | one v => exact RD.step R s h
  | tup vs => obtain ⟨ds, e, r⟩ := h; exact ⟨ds, e, r.step R s⟩
theorem ItsR.step (R : Rel K mg μ st H) (s : Step μ H μ' H') : ∀ {ts : List Item} {ds : List D}, ItsR K mg μ H ts ds → ItsR K mg μ' H' ts ds
  | _, _, .nil => .nil
  | _, _, .cons h r => .cons (h.step R s) (ItsR.step R s r)
theorem ItsR.step' {c : Ctx} (R : Rel K c μ st H) (s : Step μ H μ' H') : ∀ {ts : List Item} {ds : List D}, ItsR K mg μ H ts ds → ItsR K mg μ' H' ts ds
  | _, _, .nil => .nil
  | _, _, .cons (t := t) h r => .cons (by
      cases t with
      | one v => exact RD.step R s h
      | tup vs => obtain ⟨ds, e, r⟩ := h; exact ⟨ds, e, r.step R s⟩) (ItsR.step' R s r)
theorem ItsR.hold (R : Rel K mg μ st H) {p : Addr} (h0 : H p = none) : ∀ {ts : List Item} {ds : List D}, ItsR K mg μ H ts ds → ItsR K (mg.add p) μ H ts ds
  | _, _, .nil => .nil
  | _, _, .cons (t := t) h r => .cons (by
      cases t with
      | one v => exact RD.keep R h0 (.inr trivial) h
      | tup vs => obtain ⟨ds, e, r⟩ := h; exact ⟨ds, e, r.keep R h0 (.inr trivial)⟩) (ItsR.hold R h0 r)
theorem ItsR.get : ∀ {ts : List Item} {ds : List D} {i : Nat} {d : D}, ItsR K mg μ H ts ds → ds[i]? = some d → ∃ t, ts[i]? = some t ∧ ItR K mg μ H t d
  | _, _, _, _, .nil, h => by simp at h
  | _, _, 0, _, .cons r _, h => by simp at h; subst h; exact ⟨_, rfl, r⟩
  | _, _, i + 1, _, .cons _ t, h => by
    obtain ⟨v, h1, h2⟩ := ItsR.get (i := i) t (by simpa using h)
    exact ⟨v, by simpa using h1, h2⟩
theorem ItsR.length : ∀ {ts : List Item} {ds : List D}, ItsR K mg μ H ts ds → ts.length = ds.length
  | _, _, .nil => rfl
  | _, _, .cons _ r => by rw [List.length_cons, List.length_cons, ItsR.length r]
theorem ItsR.ones : ∀ {vs : List V} {ds : List D}, RDs K mg μ H vs ds → ItsR K mg μ H (vs.map .one) ds
  | _, _, .nil => .nil
  | _, _, .cons h r => .cons h (ItsR.ones r)
/-- the item handed out -/
theorem hands_rd (R : Rel K mg μ st H) {t : Item} {d : D} {x : V} (h : ItR K mg μ H t d) (y : Hands H t x H') : Step μ H μ H' ∧ Rel K mg μ st H' ∧ RD K mg μ H' x d := by
  cases t with
  | one v =>
    obtain ⟨rfl, rfl⟩ := y
    exact ⟨Step.refl _ _, R, h⟩
  | tup vs =>
    obtain ⟨p, rfl, hp, rfl⟩ := y
    obtain ⟨ds, rfl, r⟩ := h
    have s : Step μ H μ (upd H p (.tup vs)) := Step.laid hp
    exact ⟨s, R.laid hp, .tup upd_same (r.step R s)⟩
/-- lists, tuples by value; ranges -/
theorem src_list {a : Addr} {vs : List V} {ds : List D} (hn : a ∉ μ) (h : H a = some (.lst vs)) (r : RDs K mg μ H vs ds) : SrcR K mg μ H (Itl K a) (.fix ds) := by
  refine ⟨vs.map .one, ItsR.ones r, fun H2 k i => ⟨fun t ht => ?_, fun e => ?_⟩⟩
  · have h2 : SqL K H2 a vs := SqL.of (k a _ h hn)
    rw [List.getElem?_map] at ht
    cases e : vs[i]? with
    | none => rw [e] at ht; cases ht
    | some v =>
      rw [e] at ht; cases ht
      exact ⟨⟨vs, v, h2, e⟩, fun x H3 y => ⟨by have := y.2 vs h2; rw [e] at this; exact (Option.some.inj this).symm, y.1⟩⟩
  · exact ⟨vs, SqL.of (k a _ h hn), by rw [List.length_map] at e; omega⟩
theorem src_ro {a : Addr} {vs : List V} {ds : List D} (h : RoAt K mg μ H a vs) (r : RDs K mg μ H vs ds) : SrcR K mg μ H (Itl K a) (.fix ds) := by
  have hk : ∀ H2, Kp μ H H2 → SqL K H2 a vs := fun H2 k => by
    rcases h with ⟨hn, _, h | ⟨o, h⟩⟩ | h
    · exact .inl (.inl (k a _ h hn))
    · exact .inl (.inr ⟨o, k a _ h hn⟩)
    · exact .inr h
  refine ⟨vs.map .one, ItsR.ones r, fun H2 k i => ⟨fun t ht => ?_, fun e => ?_⟩⟩
  · have h2 : SqL K H2 a vs := hk H2 k
    rw [List.getElem?_map] at ht
    cases e : vs[i]? with
    | none => rw [e] at ht; cases ht
    | some v =>
      rw [e] at ht; cases ht
      exact ⟨⟨vs, v, h2, e⟩, fun x H3 y => ⟨by have := y.2 vs h2; rw [e] at this; exact (Option.some.inj this).symm, y.1⟩⟩
  · exact ⟨vs, hk H2 k, by rw [List.length_map] at e; omega⟩
theorem src_tup (R : Rel K mg μ st H) {a : Addr} {vs : List V} {ds : List D} (h : H a = some (.tup vs)) (r : RDs K mg μ H vs ds) : SrcR K mg μ H (Itt K a) (.fix ds) := by
  have hn := R.notTup h
  refine ⟨vs.map .one, ItsR.ones r, fun H2 k i => ⟨fun t ht => ?_, fun e => ?_⟩⟩
  · have h2 : SqT K H2 a vs := SqT.of (k a _ h hn)
    rw [List.getElem?_map] at ht
    cases e : vs[i]? with
    | none => rw [e] at ht; cases ht
    | some v =>
      rw [e] at ht; cases ht
      exact ⟨⟨vs, v, h2, e⟩, fun x H3 y => ⟨by have := y.2 vs h2; rw [e] at this; exact (Option.some.inj this).symm, y.1⟩⟩
  · exact ⟨vs, SqT.of (k a _ h hn), by rw [List.length_map] at e; omega⟩
theorem its_range (lo : Int) : ∀ n s : Nat, ItsR K mg μ H (((List.range' s n).map fun (k : Nat) => V.int (lo + k)).map .one) ((List.range' s n).map fun (k : Nat) => D.int (lo + k))
  | 0, s => .nil
  | n + 1, s => by
    rw [List.range'_succ]
    exact .cons (.int _) (its_range lo n (s + 1))
theorem src_range (lo hi : Int) : SrcR K mg μ H (Itr lo (hi - lo).toNat) (.fix (rangeD lo hi)) := by
  refine ⟨((List.range (hi - lo).toNat).map fun (k : Nat) => V.int (lo + k)).map .one, ?_, fun H2 k i => ⟨fun t ht => ?_, fun e => ?_⟩⟩
  · unfold rangeD
    rw [List.range_eq_range']
    exact its_range lo _ 0
  · rw [List.getElem?_map, List.getElem?_map] at ht
    by_cases hi : i < (hi - lo).toNat
    · rw [List.getElem?_range hi] at ht
      cases ht
      exact ⟨hi, fun x H3 y => ⟨y.2, y.1⟩⟩
    · rw [List.getElem?_eq_none (by simpa using Nat.le_of_not_lt hi)] at ht
      cases ht
  · simp at e
    exact Nat.le_of_eq e
theorem its_enum : ∀ {vs : List V} {ds : List D} (n : Nat), RDs K mg μ H vs ds → ItsR K mg μ H ((vs.zipIdx n).map fun q => Item.tup [.int (q.2 : Nat), q.1]) (enumFrom n ds)
  | _, _, _, .nil => .nil
  | _, _, n, .cons h r => .cons ⟨_, rfl, .cons (.int _) (.cons h .nil)⟩ (its_enum (n + 1) r)
theorem zipIdx_get {vs : List V} {i : Nat} {t : Item} (h : ((vs.zipIdx 0).map fun q => Item.tup [.int (q.2 : Nat), q.1])[i]? = some t) : ∃ v, vs[i]? = some v ∧ t = .tup [.int (i : Nat), v] := by
  rw [List.getElem?_map] at h
  cases e : (vs.zipIdx 0)[i]? with
  | none => rw [e] at h; cases h
  | some q =>
    rw [e] at h
    cases h
    rw [List.getElem?_zipIdx] at e
    cases e2 : vs[i]? with
    | none => rw [e2] at e; cases e
    | some v => rw [e2] at e; cases e; exact ⟨v, rfl, by simp⟩
theorem src_enumL {a : Addr} {vs : List V} {ds : List D} (hn : a ∉ μ) (h : H a = some (.lst vs)) (r : RDs K mg μ H vs ds) : SrcR K mg μ H (Ite K a) (.fix (enumFrom 0 ds)) := by
  refine ⟨_, its_enum 0 r, fun H2 k i => ⟨fun t ht => ?_, fun e => ?_⟩⟩
  · have h2 : SqL K H2 a vs := SqL.of (k a _ h hn)
    obtain ⟨v, hv, rfl⟩ := zipIdx_get ht
    refine ⟨⟨vs, v, h2, hv⟩, fun x H3 y => ?_⟩
    obtain ⟨T, x', e1, e2, e3, e4⟩ := y
    have := e4 vs h2
    rw [hv] at this; cases this
    exact ⟨T, e1, e2, e3⟩
  · exact ⟨vs, SqL.of (k a _ h hn), by simp at e; omega⟩
theorem src_enumT (R : Rel K mg μ st H) {a : Addr} {vs : List V} {ds : List D} (h : H a = some (.tup vs)) (r : RDs K mg μ H vs ds) : SrcR K mg μ H (IteT K a) (.fix (enumFrom 0 ds)) := by
  have hn := R.notTup h
  refine ⟨_, its_enum 0 r, fun H2 k i => ⟨fun t ht => ?_, fun e => ?_⟩⟩
  · have h2 : SqT K H2 a vs := SqT.of (k a _ h hn)
    obtain ⟨v, hv, rfl⟩ := zipIdx_get ht
    refine ⟨⟨vs, v, h2, hv⟩, fun x H3 y => ?_⟩
    obtain ⟨T, x', e1, e2, e3, e4⟩ := y
    have := e4 vs h2
    rw [hv] at this; cases this
    exact ⟨T, e1, e2, e3⟩
  · exact ⟨vs, SqT.of (k a _ h hn), by simpa using e⟩
theorem its_zip : ∀ {vs ws : List V} {ds es : List D}, RDs K mg μ H vs ds → RDs K mg μ H ws es → ItsR K mg μ H ((vs.zip ws).map fun q => Item.tup [q.1, q.2]) (zipD ds es)
  | _, _, _, _, .nil, _ => .nil
  | _, _, _, _, .cons _ _, .nil => .nil
  | _, _, _, _, .cons h r, .cons h' r' => .cons ⟨_, rfl, .cons h (.cons h' .nil)⟩ (its_zip r r')
theorem zip_get {vs ws : List V} {i : Nat} {t : Item} (h : ((vs.zip ws).map fun q => Item.tup [q.1, q.2])[i]? = some t) : ∃ v w, vs[i]? = some v ∧ ws[i]? = some w ∧ t = .tup [v, w] := by
  rw [List.getElem?_map] at h
  cases e : (vs.zip ws)[i]? with
  | none => rw [e] at h; cases h
  | some q =>
    rw [e] at h
    cases h
    rw [List.getElem?_zip_eq_some] at e
    exact ⟨q.1, q.2, e.1, e.2, rfl⟩
theorem src_zipL {a b : Addr} {vs ws : List V} {ds es : List D} (hn : a ∉ μ) (h : H a = some (.lst vs)) (r : RDs K mg μ H vs ds) (hn' : b ∉ μ) (h' : H b = some (.lst ws)) (r' : RDs K mg μ H ws es) : SrcR K mg μ H (Itz K a b) (.fix (zipD ds es)) := by
  refine ⟨_, its_zip r r', fun H2 k i => ⟨fun t ht => ?_, fun e => ?_⟩⟩
  · have h2 : SqL K H2 a vs := SqL.of (k a _ h hn)
    have h2' : SqL K H2 b ws := SqL.of (k b _ h' hn')
    obtain ⟨v, w, hv, hw, rfl⟩ := zip_get ht
    refine ⟨⟨vs, ws, v, w, h2, h2', hv, hw⟩, fun x H3 y => ?_⟩
    obtain ⟨T, x', y', e1, e2, e3, e4, e5⟩ := y
    have := e4 vs h2
    rw [hv] at this; cases this
    have := e5 ws h2'
    rw [hw] at this; cases this
    exact ⟨T, e1, e2, e3⟩
  · refine ⟨vs, ws, SqL.of (k a _ h hn), SqL.of (k b _ h' hn'), ?_⟩
    simp at e
    omega
theorem src_zipT (R : Rel K mg μ st H) {a b : Addr} {vs ws : List V} {ds es : List D} (h : H a = some (.tup vs)) (r : RDs K mg μ H vs ds) (h' : H b = some (.tup ws)) (r' : RDs K mg μ H ws es) : SrcR K mg μ H (RZ.ItzT K a b) (.fix (zipD ds es)) := by
  have hn := R.notTup h
  have hn' := R.notTup h'
  refine ⟨_, its_zip r r', fun H2 k i => ⟨fun t ht => ?_, fun e => ?_⟩⟩
  · have h2 : SqT K H2 a vs := SqT.of (k a _ h hn)
    have h2' : SqT K H2 b ws := SqT.of (k b _ h' hn')
    obtain ⟨v, w, hv, hw, rfl⟩ := zip_get ht
    refine ⟨⟨vs, ws, v, w, h2, h2', hv, hw⟩, fun x H3 y => ?_⟩
    obtain ⟨T, x', y', e1, e2, e3, e4, e5⟩ := y
    have := e4 vs h2
    rw [hv] at this; cases this
    have := e5 ws h2'
    rw [hw] at this; cases this
    exact ⟨T, e1, e2, e3⟩
  · refine ⟨vs, ws, SqT.of (k a _ h hn), SqT.of (k b _ h' hn'), ?_⟩
    simp at e
    omega
end

/-! ### the judgement -/
section
variable (K : PySem.W.Frag) (mg : Ctx) (B : Base) (W : Wish)
def tMI (m : I) : TI := fun σ H Rw => ∃ μ st env, Now K mg B μ st H σ env ∧ ∃ r, m env st = some r ∧ (match r with
  | .ok src st' => ∀ μ' H' J, Step μ H μ' H' → Rel K mg μ' st' H' → SrcR K mg μ' H' J src → (∀ l n, src = .live l n → ∃ ds, st'[l]? = some (.lst ds) ∧ ds.length = n) → Rw J H'
  | .ex x st' => W x env st')
end
abbrev CI (X : Cx) (B : Base) (W : Wish) (tg e : Expr) (m : I) : Prop := PI X tg e (tMI X.K ⟨X.mg, B.ρ⟩ B W m)
theorem PI.imp {X : Cx} {tg e : Expr} {t t' : TI} (h : PI X tg e t) (k : ∀ σ H Q, t' σ H Q → t σ H Q) : PI X tg e t' := ⟨fun pins s σ H Q I hw => h.run pins s σ H Q I (k σ H Q hw)⟩
/-- over a list or a tuple, whichever it is -/
theorem pi_seq {X : Cx} {tg l : Expr} {tl : TE} (hl : PE X l tl) : PI X tg l (fun σ H R => tl σ H fun x H1 => ∃ a, x = .ref a ∧ (((∃ xs, SqL X.K H1 a xs) ∧ R (Itl X.K a) H1) ∨ ((∃ xs, SqT X.K H1 a xs) ∧ R (Itt X.K a) H1))) := by
  refine ⟨fun pins s σ H R I h => ?_⟩
  refine thn (hl.run pins s σ H _ I h) fun v s1 ⟨x, H1, I1, r1, q1⟩ => ?_
  obtain ⟨a, e, hq⟩ := q1
  subst e
  cases r1
  rcases hq with ⟨⟨xs, hq⟩, q⟩ | ⟨⟨xs, hq⟩, q⟩
  · obtain ⟨its, rv, p, hz⟩ := I1.list hq
    refine wpAny_pyIter_list p.isList ?_
    refine ⟨s1.heap.objs.size, [s1.heap.objs.size], _, _, H1, rfl, I1.kept (t' := s1.toks) fun b o e => Heap.get?_push_of_some _ e, turn_list a _, ⟨_, Heap.get?_push_size _ rfl, rfl, rfl⟩, fun b hb => ?_, q⟩
    have e : b = s1.heap.objs.size := by simpa using hb
    subst e
    exact I1.fpOk (Nat.le_refl _) (I1.hok.fresh (Nat.le_refl _))
  · obtain ⟨its, rv, p, hz⟩ := I1.tuple hq
    refine wpAny_pyIter_tuple (show s1.heap.IsTuple a its.toArray from p) ?_
    refine ⟨s1.heap.objs.size, [s1.heap.objs.size], _, _, H1, rfl, I1.kept (t' := s1.toks) fun b o e => Heap.get?_push_of_some _ e, turn_tuple a _, ⟨_, Heap.get?_push_size _ rfl, rfl, rfl⟩, fun b hb => ?_, q⟩
    have e : b = s1.heap.objs.size := by simpa using hb
    subst e
    exact I1.fpOk (Nat.le_refl _) (I1.hok.fresh (Nat.le_refl _))
section
variable {X : Cx} {B : Base} {W : Wish} {tg a b e : Expr} {ma mb m : E} {pos p : Pos}
theorem ci_of (ha : CE X B W a ma) : CI X B W tg a (iOf ma) := by
  refine PI.imp (pi_seq ha) ?_
  rintro σ H Rw ⟨μ, st, env, n, r, h, hq⟩
  have hx : ∀ x st1, r = .ex x st1 → W x env st1 := fun x st1 e => by subst e; exact hq
  refine first n h hx fun d st1 μ1 H1 v h1 s1 n1 r1 => ?_
  obtain ⟨src, e, rfl⟩ := look_inv h1
  split at e
  · cases e
    cases r1 with
    | tup ha r => exact ⟨_, rfl, .inr ⟨⟨_, SqT.of ha⟩, hq _ _ _ s1 n1.rel (src_tup n1.rel ha r) (fun l n z => nomatch z)⟩⟩
  · cases e
    cases r1 with
    | lst hn _ ha r => exact ⟨_, rfl, .inl ⟨⟨_, SqL.of ha⟩, hq _ _ _ s1 n1.rel (src_list hn ha r) (fun l n z => nomatch z)⟩⟩
  · cases e
    cases r1 with
    | rol ha r => exact ⟨_, rfl, .inl ⟨⟨_, ha.sq⟩, hq _ _ _ s1 n1.rel (src_ro ha r) (fun l n z => nomatch z)⟩⟩
  · split at e
    · rename_i l ds e1
      cases e
      cases r1 with
      | loc hl =>
        obtain ⟨vs, h1, h2⟩ := n1.rel.obj _ _ _ hl e1
        exact ⟨_, rfl, .inl ⟨⟨vs, SqL.of h1⟩, hq _ _ _ s1 n1.rel ⟨_, hl, rfl⟩ (fun l n z => by cases z; exact ⟨ds, e1, rfl⟩)⟩⟩
    · cases e
  · cases e
theorem ci_range (hg : Gl X "range") (hm : X.mg "range" = none) (ha : CE X B W a ma) (hs : starEach [a] X.env = [(false, eval a X.env)] := by rfl) : CI X B W tg (.Call (.Name "range" p) [a] [] pos) (iRange ma) := by
  refine PI.imp (pi_range1 hg hm (pa_cons ha pa_nil hs) hs) ?_
  rintro σ H Rw ⟨μ, st, env, n, r, h, hq⟩
  have hx : ∀ x st1, r = .ex x st1 → W x env st1 := fun x st1 e => by subst e; exact hq
  refine first n h hx fun d st1 μ1 H1 v h1 s1 n1 r1 => ?_
  obtain ⟨src, e, rfl⟩ := need_inv h1
  cases d <;> simp only at e <;> try (cases e; done)
  split at e
  · rename_i j hz
    cases e
    cases r1
    simp only [small62, Bool.and_eq_true, decide_eq_true_eq] at hz
    refine ⟨j, rfl, hz.1, hz.2, ?_⟩
    have q := src_range (K := X.K) (mg := ⟨X.mg, B.ρ⟩) (μ := μ1) (H := H1) 0 j
    rw [Int.sub_zero] at q
    exact hq _ _ _ s1 n1.rel q (fun l n z => nomatch z)
  · cases e
theorem ci_range2 (hg : Gl X "range") (hm : X.mg "range" = none) (ha : CE X B W a ma) (hb : CE X B W b mb) (hs : starEach [a, b] X.env = [(false, eval a X.env), (false, eval b X.env)] := by rfl) (hs2 : starEach [b] X.env = [(false, eval b X.env)] := by rfl) :
    CI X B W tg (.Call (.Name "range" p) [a, b] [] pos) (iRange2 ma mb) := by
  refine PI.imp (pi_range2 hg hm (pa_cons ha (pa_cons hb pa_nil hs2) (by rw [hs, hs2])) hs hs2) ?_
  rintro σ H Rw ⟨μ, st, env, n, r, h, hq⟩
  have hx : ∀ x st1, r = .ex x st1 → W x env st1 := fun x st1 e => by subst e; exact hq
  refine first n h hx fun d st1 μ1 H1 v h1 s1 n1 r1 => ?_
  refine first n1 h1 hx fun d2 st2 μ2 H2 u h2 s2 n2 r2 => ?_
  obtain ⟨src, e, rfl⟩ := need_inv h2
  cases d <;> cases d2 <;> simp only at e <;> try (cases e; done)
  split at e
  · rename_i i j hz
    cases e
    cases r1; cases r2
    simp only [small62, Bool.and_eq_true, decide_eq_true_eq] at hz
    exact ⟨i, j, rfl, ⟨hz.1.1, hz.1.2, hz.2.1, hz.2.2⟩, hq _ _ _ (s1.trans n1.rel s2) n2.rel (src_range i j) (fun l n z => nomatch z)⟩
  · cases e
theorem ci_enum {elts : List Expr} {kk : Nat} {tpos : Pos} (hg : Gl X "enumerate") (hm : X.mg "enumerate" = none) (ha : CE X B W a ma) (hs : starEach [a] X.env = [(false, eval a X.env)] := by rfl) : CI X B W (.Tuple elts kk tpos) (.Call (.Name "enumerate" p) [a] [] pos) (iEnum ma) := by
  refine PI.imp (pi_enumA hg hm (pa_cons ha pa_nil hs) hs) ?_
  rintro σ H Rw ⟨μ, st, env, n, r, h, hq⟩
  have hx : ∀ x st1, r = .ex x st1 → W x env st1 := fun x st1 e => by subst e; exact hq
  refine first n h hx fun d st1 μ1 H1 v h1 s1 n1 r1 => ?_
  obtain ⟨src, e, rfl⟩ := need_inv h1
  cases d <;> simp only at e <;> try (cases e; done)
  · cases e
    cases r1 with
    | tup ha r => exact ⟨_, _, rfl, .inr ⟨SqT.of ha, hq _ _ _ s1 n1.rel (src_enumT n1.rel ha r) (fun l n z => nomatch z)⟩⟩
  · cases e
    cases r1 with
    | lst hn _ ha r => exact ⟨_, _, rfl, .inl ⟨SqL.of ha, hq _ _ _ s1 n1.rel (src_enumL hn ha r) (fun l n z => nomatch z)⟩⟩
theorem ci_zip {elts : List Expr} {kk : Nat} {tpos : Pos} (hg : Gl X "zip") (hm : X.mg "zip" = none) (ha : CE X B W a ma) (hb : CE X B W b mb)
    (hs : starEach [a, b] X.env = (false, eval a X.env) :: starEach [b] X.env := by rfl) (hs2 : starEach [b] X.env = (false, eval b X.env) :: starEach [] X.env := by rfl) (hpl : (backTo pos (starEach [b] X.env)).any (·.1) = false := by rfl) :
    CI X B W (.Tuple elts kk tpos) (.Call (.Name "zip" p) [a, b] [] pos) (iZip ma mb) := by
  refine PI.imp (RZ.pi_zipA hg hm (pa_cons ha (pa_cons hb pa_nil hs2) hs) hs hpl) ?_
  rintro σ H Rw ⟨μ, st, env, n, r, h, hq⟩
  have hx : ∀ x st1, r = .ex x st1 → W x env st1 := fun x st1 e => by subst e; exact hq
  refine first n h hx fun d st1 μ1 H1 v h1 s1 n1 r1 => ?_
  refine first n1 h1 hx fun d2 st2 μ2 H2 u h2 s2 n2 r2 => ?_
  obtain ⟨src, e, rfl⟩ := need_inv h2
  have r1' := r1.step n1.rel s2
  cases d <;> cases d2 <;> simp only at e <;> try (cases e; done)
  · cases e
    cases r1' with
    | tup ha r =>
      cases r2 with
      | tup ha' r' => exact ⟨_, _, _, _, rfl, .inr ⟨SqT.of ha, SqT.of ha', hq _ _ _ (s1.trans n1.rel s2) n2.rel (src_zipT n2.rel ha r ha' r') (fun l n z => nomatch z)⟩⟩
  · cases e
    cases r1' with
    | lst hn _ ha r =>
      cases r2 with
      | lst hn' _ ha' r' => exact ⟨_, _, _, _, rfl, .inl ⟨SqL.of ha, SqL.of ha', hq _ _ _ (s1.trans n1.rel s2) n2.rel (src_zipL hn ha r hn' ha' r') (fun l n z => nomatch z)⟩⟩
end
end Mi

set_option Elab.async false
set_option linter.all false
set_option autoImplicit false
set_option maxRecDepth 100000
set_option maxHeartbeats 2000000
/-! Mi: targets, comprehensions. -/
namespace Mi
open PySem PySem.Spec PyProof.Rows L2

/-! ### targets -/
def tMG (K : PySem.W.Frag) (g0 : Str → Option Value) (dom : List Nat) (g : G) : TG := fun v σ H Q => ∃ ρ μ st env d env', Rel K ⟨g0, ρ⟩ μ st H ∧ REnv K ⟨g0, ρ⟩ μ H σ env ∧ RD K ⟨g0, ρ⟩ μ H v d ∧ g d env = some env' ∧
  ∀ σ', REnv K ⟨g0, ρ⟩ μ H σ' env' → σ'.length = σ.length → (∀ j, j ∉ dom → σ'[j]? = σ[j]?) → Q σ' H
abbrev CG (X : Cx) (tg : Expr) (dom : List Nat) (g : G) : Prop := PG X tg (tMG X.K X.mg dom g)
theorem PG.imp {X : Cx} {tg : Expr} {t t' : TG} (h : PG X tg t) (k : ∀ v σ H Q, t' v σ H Q → t v σ H Q) : PG X tg t' := ⟨fun pins s σ H v u Q I r hw => h.run pins s σ H v u Q I r (k v σ H Q hw)⟩
section
variable {X : Cx} {B : Base} {W : Wish} {pos : Pos}
theorem cg_var {i : Nat} {x : Str} (hN : X.N.Nodup) (hi : X.N[i]? = some x) (hx : Loc X.env.scope x) (hf : X.fn x = true ∨ X.env.scope.names.lookup x = some .local := by first | exact .inl rfl | exact .inr rfl | assumption) : CG X (.Name x pos) [i] (gVar i) := by
  refine PG.imp (pg_name hN hi hx hf) ?_
  rintro v σ H Q ⟨ρ, μ, st, env, d, env', R, re, rd, hg, hq⟩
  simp only [gVar] at hg
  split at hg
  · cases hg
    refine hq _ (re.set rd) (by simp) fun j hj => ?_
    rw [List.getElem?_set_ne (fun z => hj (by simp [z]))]
  · cases hg
theorem cg_set2 {i j k : Nat} {x y : Str} {p1 p2 : Pos} (hc : X.calm = true) (hN : X.N.Nodup) (hi : X.N[i]? = some x) (hx : Loc X.env.scope x) (hj : X.N[j]? = some y) (hy : Loc X.env.scope y)
    (hfx : X.fn x = true ∨ X.env.scope.names.lookup x = some .local := by first | exact .inl rfl | exact .inr rfl | assumption) (hfy : X.fn y = true ∨ X.env.scope.names.lookup y = some .local := by first | exact .inl rfl | exact .inr rfl | assumption)
    (hs : (assignEach (.Name x p1 :: [.Name y p2]) X.env).map (·.2) = assign (.Name x p1) X.env :: (assignEach [.Name y p2] X.env).map (·.2) := by rfl) (hs2 : (assignEach (.Name y p2 :: []) X.env).map (·.2) = assign (.Name y p2) X.env :: (assignEach [] X.env).map (·.2) := by rfl)
    (hn : (assignEach [.Name x p1, .Name y p2] X.env).length = 2 := by rfl) (hst : (assignEach [.Name x p1, .Name y p2] X.env).findIdx? (·.1) = none := by rfl) :
    CG X (.Tuple [.Name x p1, .Name y p2] k pos) [i, j] (gSet2 i j) := by
  refine PG.imp (pg_tup hc (pgs_cons (pg_name hN hi hx hfx) (pgs_cons (pg_name hN hj hy hfy) pgs_nil hs2) hs) hn hst) ?_
  rintro v σ H Q ⟨ρ, μ, st, env, d, env', R, re, rd, hg, hq⟩
  unfold gSet2 at hg
  split at hg
  · split at hg
    · cases hg
      cases rd with
      | tup ha r =>
        cases r with
        | cons r1 r =>
          cases r with
          | cons r2 r =>
            cases r
            refine ⟨_, _, rfl, SqT.of ha, rfl, _, _, rfl, _, _, rfl, rfl, ?_⟩
            refine hq _ ((re.set r1).set r2) (by simp) fun l hl => ?_
            rw [List.getElem?_set_ne (fun z => hl (by simp [z])), List.getElem?_set_ne (fun z => hl (by simp [z]))]
    · cases hg
  · cases hg
end
theorem wipe_get (σ : L2.St) : ∀ (vs : List Nat) (j : Nat), (L2.wipe σ vs)[j]? = if j ∈ vs ∧ j < σ.length then some none else σ[j]?
  | [], j => by simp [L2.wipe]
  | v :: vs, j => by
    show ((L2.wipe σ vs).set v none)[j]? = _
    by_cases hj : v = j
    · subst hj
      by_cases hl : v < σ.length
      · rw [List.getElem?_set_self (by rw [wipe_length]; exact hl), if_pos ⟨List.mem_cons_self, hl⟩]
      · rw [List.getElem?_eq_none (by simp [wipe_length]; omega), if_neg (fun z => hl z.2), List.getElem?_eq_none (by omega)]
    · rw [List.getElem?_set_ne hj, wipe_get σ vs j]
      by_cases hm : j ∈ vs ∧ j < σ.length
      · rw [if_pos hm, if_pos ⟨List.mem_cons_of_mem _ hm.1, hm.2⟩]
      · rw [if_neg hm, if_neg (fun z => hm ⟨by rcases List.mem_cons.mp z.1 with q | q; exact absurd q.symm hj; exact q, z.2⟩)]
theorem wipe_same {σ σ' : L2.St} {vs dom : List Nat} (hd : ∀ j ∈ dom, j ∈ vs) (hl : σ'.length = (L2.wipe σ vs).length) (h : ∀ j, j ∉ dom → σ'[j]? = (L2.wipe σ vs)[j]?) : L2.wipe σ' vs = L2.wipe σ vs := by
  have hl' : σ'.length = σ.length := by rw [hl, wipe_length]
  apply List.ext_getElem?
  intro j
  by_cases hj : j < σ.length
  · rw [wipe_get, wipe_get, hl']
    by_cases hm : j ∈ vs ∧ j < σ.length
    · rw [if_pos hm, if_pos hm]
    · rw [if_neg hm, if_neg hm, h j (fun z => hm ⟨hd j z, hj⟩), wipe_get, if_neg hm]
  · rw [List.getElem?_eq_none (by rw [wipe_length]; omega), List.getElem?_eq_none (by rw [wipe_length]; omega)]

/-! ### the list that is being made -/
section
variable {K : PySem.W.Frag} {mg : Ctx} {μ μ' : List Addr} {H H' : Hp} {st : Store} {D₀ : Addr} {acc : List V} {o : HO}
theorem Step.mutate (s : Step μ H μ' H') (h : H D₀ = none) : Step μ H μ' (upd H' D₀ o) :=
  ⟨s.pre, fun a u e hn => by rw [upd_ne (ne_of_none e h)]; exact s.keep a u e hn⟩
mutual
theorem RD.mutate (hD : H D₀ = some (.lst acc)) : ∀ {v : V} {d : D}, RD K (mg.add D₀) μ H v d → RD K (mg.add D₀) μ (upd H D₀ o) v d
  | _, _, .non => .non
  | _, _, .bl b => .bl b
  | _, _, .int i => .int i
  | _, _, .str x => .str x
  | _, _, .tup h r => .tup (by rw [upd_ne (ne_of h hD (fun z => nomatch z))]; exact h) (RDs.mutate hD r)
  | _, _, .lst hn hr h r => .lst hn hr (by rw [upd_ne (fun z => hr (by simp [z]))]; exact h) (RDs.mutate hD r)
  | _, _, .rol h r => .rol (by
      rcases h with ⟨hn, hr, h⟩ | h
      · refine .inl ⟨hn, hr, ?_⟩
        rcases h with h | ⟨o', h⟩
        · exact .inl (by rw [upd_ne (fun z => hr (by simp [z]))]; exact h)
        · exact .inr ⟨o', by rw [upd_ne (fun z => hr (by simp [z]))]; exact h⟩
      · exact .inr h) (RDs.mutate hD r)
  | _, _, .dct h hn hr r => .dct (by rw [upd_ne (fun z => hr (by simp [z]))]; exact h) hn hr (RDk.mutate hD r)
  | _, _, .loc h => .loc h
  | _, _, .fn h => .fn h
theorem RDs.mutate (hD : H D₀ = some (.lst acc)) : ∀ {vs : List V} {ds : List D}, RDs K (mg.add D₀) μ H vs ds → RDs K (mg.add D₀) μ (upd H D₀ o) vs ds
  | _, _, .nil => .nil
  | _, _, .cons h r => .cons (RD.mutate hD h) (RDs.mutate hD r)
theorem RDk.mutate (hD : H D₀ = some (.lst acc)) : ∀ {vs : List (Key × V)} {ds : List (Key × D)}, RDk K (mg.add D₀) μ H vs ds → RDk K (mg.add D₀) μ (upd H D₀ o) vs ds
  | _, _, .nil => .nil
  | _, _, .cons h r => .cons (RD.mutate hD h) (RDk.mutate hD r)
end
theorem Rel.mutate (R : Rel K (mg.add D₀) μ st H) (hD : H D₀ = some (.lst acc)) : Rel K (mg.add D₀) μ st (upd H D₀ o) := by
  have hm := (R.res D₀ List.mem_cons_self).1
  refine ⟨R.len, R.nd, R.rn, fun a ha => ⟨(R.res a ha).1, ?_⟩, fun l a u h1 h2 => ?_⟩
  · by_cases e : a = D₀
    · subst e; exact ⟨o, upd_same⟩
    · rw [upd_ne e]; exact (R.res a ha).2
  · have q := R.obj l a u h1 h2
    have ne : a ≠ D₀ := fun z => hm (by rw [← z]; exact List.mem_of_getElem? h1)
    cases u with
    | lst ds => obtain ⟨vs, q1, q2⟩ := q; exact ⟨vs, by rw [upd_ne ne]; exact q1, q2.mutate hD⟩
    | ins c fs => obtain ⟨C, dx, vs, q0, q1, q2⟩ := q; exact ⟨C, dx, vs, q0, by rw [upd_ne ne]; exact q1, q2.mutate hD⟩
end
theorem bndN_inv {α β : Type} {m : M α} {f : α → M β} {st : Store} {r : R β} (h : bndN m f st = some r) : ∃ a st1, m st = some (.ok a st1) ∧ f a st1 = some r := by
  unfold bndN at h
  split at h
  · rename_i a st1 e; exact ⟨a, st1, e, h⟩
  · cases h
/-- nothing is raised -/
def WF : Wish := fun _ _ _ => False
def tMx (K : PySem.W.Frag) (g0 : Str → Option Value) (m : E) : TE := fun σ H Q => ∃ B : Base, tM K ⟨g0, B.ρ⟩ B WF m σ H Q
def tMTx (K : PySem.W.Frag) (g0 : Str → Option Value) (m : T) : TT := fun σ H Q => ∃ B : Base, tMT K ⟨g0, B.ρ⟩ B WF m σ H Q
/-- one turn's outcome: the item's place taken, the test asked, the element made -/
inductive Turned (g : G) (t : T) (e : E) (σ : Env) (d : D) (st : Store) : Option D → Store → Prop where
  | no {σ1 : Env} {st1 : Store} : g d σ = some σ1 → t σ1 st = some (.ok false st1) → Turned g t e σ d st none st1
  | yes {σ1 : Env} {st1 st2 : Store} {x : D} : g d σ = some σ1 → t σ1 st = some (.ok true st1) → e σ1 st1 = some (.ok x st2) → Turned g t e σ d st (some x) st2
theorem compFix_cons {g : G} {t : T} {e : E} {σ : Env} {d : D} {ds : List D} {st : Store} {r : R (List D)} (h : compFix g t e σ (d :: ds) st = some r) (hr : ∀ x s, r ≠ .ex x s) :
    ∃ o st1 xs st', Turned g t e σ d st o st1 ∧ compFix g t e σ ds st1 = some (.ok xs st') ∧ r = .ok (o.toList ++ xs) st' := by
  unfold compFix at h
  cases hg : g d σ with
  | none => rw [hg] at h; cases h
  | some σ1 =>
    rw [hg] at h
    obtain ⟨k, st1, ht, h⟩ := bndN_inv h
    cases k with
    | true =>
      rw [if_pos rfl] at h
      obtain ⟨x, st2, he, h⟩ := bndN_inv h
      obtain ⟨xs, st3, hc, h⟩ := bndN_inv h
      cases ret_inv h
      exact ⟨some x, st2, xs, st3, .yes hg ht he, hc, rfl⟩
    | false =>
      rw [if_neg Bool.false_ne_true] at h
      cases r with
      | ok xs st' => exact ⟨none, st1, xs, st', .no hg ht, h, rfl⟩
      | ex x s => exact absurd rfl (hr x s)
theorem compFix_noex {g : G} {t : T} {e : E} {σ : Env} : ∀ {ds : List D} {st : Store} {r : R (List D)}, compFix g t e σ ds st = some r → ∀ x s, r ≠ .ex x s
  | [], st, r, h, x, s, z => by cases ret_inv h; cases z
  | d :: ds, st, r, h, x, s, z => by
    unfold compFix at h
    cases hg : g d σ with
    | none => rw [hg] at h; cases h
    | some σ1 =>
      rw [hg] at h
      obtain ⟨k, st1, ht, h⟩ := bndN_inv h
      cases k with
      | true =>
        rw [if_pos rfl] at h
        obtain ⟨y, st2, he, h⟩ := bndN_inv h
        obtain ⟨xs, st3, hc, h⟩ := bndN_inv h
        cases ret_inv h
        cases z
      | false =>
        rw [if_neg Bool.false_ne_true] at h
        exact compFix_noex h x s z
theorem compLive_cons {g : G} {t : T} {e : E} {σ : Env} {l n i : Nat} {st : Store} {r : R (List D)} (h : compLive g t e σ l (n + 1) i st = some r) (hr : ∀ x s, r ≠ .ex x s) :
    ∃ ds d o st1 xs st', st[l]? = some (.lst ds) ∧ ds[i]? = some d ∧ Turned g t e σ d st o st1 ∧ compLive g t e σ l n (i + 1) st1 = some (.ok xs st') ∧ r = .ok (o.toList ++ xs) st' := by
  unfold compLive at h
  split at h
  · rename_i ds hl
    split at h
    · cases h
    · rename_i d hd
      split at h
      · cases h
      · rename_i σ1 hg
        obtain ⟨k, st1, ht, h⟩ := bndN_inv h
        cases k with
        | true =>
          rw [if_pos rfl] at h
          obtain ⟨x, st2, he, h⟩ := bndN_inv h
          obtain ⟨xs, st3, hc, h⟩ := bndN_inv h
          cases ret_inv h
          exact ⟨ds, d, some x, st2, xs, st3, hl, hd, .yes hg ht he, hc, rfl⟩
        | false =>
          rw [if_neg Bool.false_ne_true] at h
          cases r with
          | ok xs st' => exact ⟨ds, d, none, st1, xs, st', hl, hd, .no hg ht, h, rfl⟩
          | ex x s => exact absurd rfl (hr x s)
  · cases h
theorem compLive_noex {g : G} {t : T} {e : E} {σ : Env} {l : Nat} : ∀ {n i : Nat} {st : Store} {r : R (List D)}, compLive g t e σ l n i st = some r → ∀ x s, r ≠ .ex x s
  | 0, i, st, r, h, x, s, z => by
    unfold compLive at h
    split at h
    · split at h
      · cases h; cases z
      · cases h
    · cases h
  | n + 1, i, st, r, h, x, s, z => by
    unfold compLive at h
    split at h
    · split at h
      · cases h
      · split at h
        · cases h
        · obtain ⟨k, st1, ht, h⟩ := bndN_inv h
          cases k with
          | true =>
            rw [if_pos rfl] at h
            obtain ⟨y, st2, he, h⟩ := bndN_inv h
            obtain ⟨xs, st3, hc, h⟩ := bndN_inv h
            cases ret_inv h
            cases z
          | false =>
            rw [if_neg Bool.false_ne_true] at h
            exact compLive_noex h x s z
    · cases h

/-! ### one turn -/
section
variable {K : PySem.W.Frag} {g0 : Str → Option Value} {ρ : List Addr} {g : G} {t : T} {e : E} {vs dom : List Nat}
/-- the state between the turns -/
structure Mid (K : PySem.W.Frag) (g0 : Str → Option Value) (ρ : List Addr) (D₀ : Addr) (μ1 : List Addr) (H1 : Hp) (σ : L2.St) (env : Env) (μ2 : List Addr) (st2 : Store) (H2 : Hp) (acc : List V) (accD : List D) : Prop where
  new : H1 D₀ = none
  step : Step μ1 H1 μ2 H2
  rel : Rel K ⟨g0, D₀ :: ρ⟩ μ2 st2 H2
  at_ : H2 D₀ = some (.lst acc)
  rds : RDs K ⟨g0, D₀ :: ρ⟩ μ2 H2 acc accD
  env : REnv K ⟨g0, D₀ :: ρ⟩ μ2 H2 σ env
theorem REnv.mutate {μ : List Addr} {H : Hp} {σ : L2.St} {env : Env} {D₀ : Addr} {acc : List V} {o : HO} {mg : Ctx} (e : REnv K (mg.add D₀) μ H σ env) (hD : H D₀ = some (.lst acc)) : REnv K (mg.add D₀) μ (upd H D₀ o) σ env :=
  ⟨e.len, fun i d h => let ⟨v, h1, h2⟩ := e.val i d h; ⟨v, h1, h2.mutate hD⟩⟩
theorem turn_ok {D₀ : Addr} {μ1 : List Addr} {H1 : Hp} {σ : L2.St} {env : Env} {μ2 : List Addr} {st2 st3 : Store} {H2 H3 : Hp} {acc : List V} {accD : List D} {d : D} {o : Option D} {x : V} {it : Item} {Nx : Hp → Prop}
    (M : Mid K g0 ρ D₀ μ1 H1 (L2.wipe σ vs) (Mi.wipe env vs) μ2 st2 H2 acc accD) (hd : ∀ j ∈ dom, j ∈ vs) (hi : ItR K ⟨g0, D₀ :: ρ⟩ μ2 H2 it d) (hy : Hands H2 it x H3) (T : Turned g t e (Mi.wipe env vs) d st2 o st3) (hz : accD.length + o.toList.length ≤ 16777216)
    (k : ∀ μ4 H4 acc', Mid K g0 ρ D₀ μ1 H1 (L2.wipe σ vs) (Mi.wipe env vs) μ4 st3 H4 acc' (accD ++ o.toList) → Nx H4) :
    tMG K g0 dom g x (L2.wipe σ vs) H3 fun σ2 H4 => L2.wipe σ2 vs = L2.wipe σ vs ∧ tMTx K g0 t σ2 H4 fun b H5 =>
      if b = true then tMx K g0 e σ2 H5 fun y H6 => ∃ acc, H6 D₀ = some (.lst acc) ∧ acc.length < sizeLine ∧ Nx (upd H6 D₀ (.lst (acc ++ [y]))) else Nx H5 := by
  obtain ⟨s3, R3, rd⟩ := hands_rd M.rel hi hy
  have hD3 : H3 D₀ = some (.lst acc) := s3.keep _ _ M.at_ (M.rel.res D₀ List.mem_cons_self).1
  have e3 := M.env.step M.rel s3
  have done : ∀ {μ5 : List Addr} {st5 : Store} {H5 : Hp}, Step μ2 H3 μ5 H5 → Rel K ⟨g0, D₀ :: ρ⟩ μ5 st5 H5 → H5 D₀ = some (.lst acc) ∧ D₀ ∉ μ5 := fun s R =>
    ⟨s.keep _ _ hD3 (R3.res D₀ List.mem_cons_self).1, (R.res D₀ List.mem_cons_self).1⟩
  cases T with
  | @no σ1 _ hg ht =>
    refine ⟨D₀ :: ρ, μ2, st2, _, d, σ1, R3, e3, rd, hg, fun σ2 e4 hl hj => ⟨wipe_same hd hl hj, ?_⟩⟩
    refine ⟨⟨μ2, D₀ :: ρ, H3⟩, μ2, st2, σ1, ⟨Step.refl _ _, R3, e4⟩, _, ht, fun μ5 H5 s5 R5 => ?_⟩
    dsimp only
    rw [if_neg Bool.false_ne_true]
    obtain ⟨h5, _⟩ := done s5 R5
    refine k μ5 H5 acc ⟨M.new, (M.step.trans M.rel s3).trans R3 s5, R5, h5, ?_, (e3.step R3 s5)⟩
    simp only [Option.toList, List.append_nil]
    exact (M.rds.step M.rel s3).step R3 s5
  | @yes σ1 st4 _ y hg ht he =>
    refine ⟨D₀ :: ρ, μ2, st2, _, d, σ1, R3, e3, rd, hg, fun σ2 e4 hl hj => ⟨wipe_same hd hl hj, ?_⟩⟩
    refine ⟨⟨μ2, D₀ :: ρ, H3⟩, μ2, st2, σ1, ⟨Step.refl _ _, R3, e4⟩, _, ht, fun μ5 H5 s5 R5 => ?_⟩
    dsimp only
    rw [if_pos rfl]
    refine ⟨⟨μ5, D₀ :: ρ, H5⟩, μ5, st4, σ1, ⟨Step.refl _ _, R5, e4.step R3 s5⟩, _, he, fun μ6 H6 v s6 R6 rv => ?_⟩
    have s56 : Step μ2 H3 μ6 H6 := s5.trans R5 s6
    obtain ⟨h6, _⟩ := done s56 R6
    have hlen : acc.length = accD.length := M.rds.length
    refine ⟨acc, h6, by rw [sizeLine_eq]; simp at hz; omega, ?_⟩
    have rds6 := (M.rds.step M.rel s3).step R3 s56
    refine k μ6 _ (acc ++ [v]) ⟨M.new, ((M.step.trans M.rel s3).trans R3 s56).mutate M.new, Rel.mutate (mg := ⟨g0, ρ⟩) R6 h6, upd_same, ?_, REnv.mutate (mg := ⟨g0, ρ⟩) (e3.step R3 s56) h6⟩
    exact RDs.mutate (mg := ⟨g0, ρ⟩) h6 (rds6.app (.cons rv .nil))
end

/-! ### the rule -/
theorem PTs.imp {X : Cx} {ifs : List Expr} {t t' : TT} (h : PTs X ifs t) (k : ∀ σ H Q, t' σ H Q → t σ H Q) : PTs X ifs t' := ⟨fun pins s σ H Q I hw => h.run pins s σ H Q I (k σ H Q hw)⟩
section
variable {X : Cx} {B : Base} {W : Wish} {pos : Pos}
abbrev CTs (X : Cx) (ifs : List Expr) (t : T) : Prop := PTs X ifs (tMTx X.K X.mg t)
theorem cts_nil : CTs X [] Mi.tYes := by
  refine PTs.imp pts_nil ?_
  rintro σ H Q ⟨B, μ, st, env, n, r, h, hq⟩
  cases ret_inv h
  exact hq _ _ (Step.refl _ _) n.rel
theorem cts_one {c : Expr} {t : T} (h : ∀ B, CT X B WF c t) : CTs X [c] t := by
  refine PTs.imp (pts_one (t := tMTx X.K X.mg t) ⟨fun pins s σ H Q I ⟨B, hw⟩ => (h B).run pins s σ H Q I hw⟩) fun σ H Q h => h
theorem cx_of {e : Expr} {m : E} (h : ∀ B, CE X B WF e m) : PE X e (tMx X.K X.mg m) := ⟨fun pins s σ H Q I ⟨B, hw⟩ => (h B).run pins s σ H Q I hw⟩
theorem src_hold {K : PySem.W.Frag} {mg : Ctx} {μ : List Addr} {H : Hp} {st : Store} {J : It} {ds : List D} (R : Rel K mg μ st H) {p : Addr} (h0 : H p = none) (s : SrcR K mg μ H J (.fix ds)) : SrcR K (mg.add p) μ H J (.fix ds) := by
  obtain ⟨its, h1, h2⟩ := s
  exact ⟨its, h1.hold R h0, h2⟩
theorem comp_read {s : I} {g : G} {t : T} {e : E} {vs dom : List Nat} (hd : ∀ j ∈ dom, j ∈ vs) : ∀ σ H Q, tML X.K ⟨X.mg, B.ρ⟩ B W (lComp s g t e vs) σ H Q → tLc (tMI X.K ⟨X.mg, B.ρ⟩ B W s) (tMG X.K X.mg dom g) (tMTx X.K X.mg t) (tMx X.K X.mg e) vs σ H Q := by
  rintro σ H Q ⟨μ, st, env, n, r, h, hq⟩
  rcases bnd_inv h with ⟨src, st1, e1, h1⟩ | ⟨x, st1, e1, rfl⟩
  case inr => exact ⟨μ, st, env, n, _, e1, hq⟩
  refine ⟨μ, st, env, n, _, e1, fun μ1 H1 J s1 R1 SR live D₀ hD => ?_⟩
  have n1 := n.next s1 R1
  have hD0 : H D₀ = none := s1.fresh hD fun z => by
    obtain ⟨⟨ν, rfl, _⟩, _⟩ := s1
    exact R1.new hD (List.mem_append_left _ z)
  have R1' : Rel X.K ⟨X.mg, D₀ :: B.ρ⟩ μ1 st1 (upd H1 D₀ (.lst [])) := R1.hold hD
  have env1 : REnv X.K ⟨X.mg, D₀ :: B.ρ⟩ μ1 (upd H1 D₀ (.lst [])) (L2.wipe σ vs) (Mi.wipe env vs) := by
    have q := n1.env.wipe vs
    exact ⟨q.len, fun i d h => let ⟨v, h1, h2⟩ := q.val i d h; ⟨v, h1, RD.step R1 (Step.laid hD) (h2.keep R1 hD (.inr trivial))⟩⟩
  have M0 : Mid X.K X.mg B.ρ D₀ μ1 H1 (L2.wipe σ vs) (Mi.wipe env vs) μ1 st1 (upd H1 D₀ (.lst [])) [] [] := ⟨hD, Step.laid hD, R1', upd_same, .nil, env1⟩
  rcases bnd_inv h1 with ⟨xs, st', e2, h2⟩ | ⟨x, st', e2, rfl⟩
  case inr =>
    cases src with
    | fix ds => exact absurd rfl (compFix_noex e2 x st')
    | live l n => exact absurd rfl (compLive_noex e2 x st')
  split at h2
  case isFalse => cases h2
  rename_i hz
  cases ret_inv h2
  have hz' : xs.length ≤ 16777216 := of_decide_eq_true hz
  have fin : ∀ {μ2 H2 acc}, Mid X.K X.mg B.ρ D₀ μ1 H1 (L2.wipe σ vs) (Mi.wipe env vs) μ2 st' H2 acc xs → Q (.ref D₀) H2 := fun {μ2 H2 acc} M =>
    hq μ2 H2 D₀ acc (s1.trans R1 M.step) M.rel hD0 M.at_ M.rds
  cases src with
  | fix ds =>
    obtain ⟨its, i1, i2⟩ := SR
    have i1' := i1.hold R1 hD
    have il := i1.length
    refine ⟨fun i m H2 => ∃ μ2 st2 acc accD rest, m = ds.length - i ∧ i ≤ ds.length ∧ Mid X.K X.mg B.ρ D₀ μ1 H1 (L2.wipe σ vs) (Mi.wipe env vs) μ2 st2 H2 acc accD ∧ compFix g t e (Mi.wipe env vs) (ds.drop i) st2 = some (.ok rest st') ∧ accD ++ rest = xs,
      ⟨ds.length, μ1, st1, [], [], xs, by omega, Nat.zero_le _, M0, e2, rfl⟩, ?_⟩
    rintro i m H2 ⟨μ2, st2, acc, accD, rest, rfl, hi, M, hc, hx⟩
    have kp : Kp μ1 H1 H2 := M.step.kp
    by_cases hlt : i < ds.length
    · have hdi : ds[i]? = some ds[i] := List.getElem?_eq_getElem hlt
      obtain ⟨it, hit, ir⟩ := i1'.get hdi
      obtain ⟨go, yl⟩ := (i2 H2 kp i).1 it hit
      have hdr : ds.drop i = ds[i] :: ds.drop (i + 1) := List.drop_eq_getElem_cons hlt
      rw [hdr] at hc
      obtain ⟨o, st3, ys, st4, T, hc2, hr⟩ := compFix_cons hc (fun x s z => nomatch z)
      cases hr
      refine .inr ⟨go, fun H4 => ∃ μ4 acc', Mid X.K X.mg B.ρ D₀ μ1 H1 (L2.wipe σ vs) (Mi.wipe env vs) μ4 st3 H4 acc' (accD ++ o.toList), fun H4 ⟨μ4, acc', M4⟩ => ⟨ds.length - (i + 1), by omega, μ4, st3, acc', _, ys, rfl, hlt, M4, hc2, by rw [List.append_assoc]; exact hx⟩, fun x H3 y => ?_⟩
      refine turn_ok (it := it) M hd ?_ (yl x H3 y) T ?_ fun μ4 H4 acc' M4 => ⟨μ4, acc', M4⟩
      · exact ItsR.step' R1 M.step i1' |>.get hdi |> fun ⟨it', h1, h2⟩ => by rw [hit] at h1; cases h1; exact h2
      · have := congrArg List.length hx
        simp at this
        omega
    · have e : i = ds.length := by omega
      subst e
      rw [List.drop_length] at hc
      cases ret_inv hc
      rw [List.append_nil] at hx
      subst hx
      exact .inl ⟨(i2 H2 kp _).2 il, fin M⟩
  | live l nn =>
    obtain ⟨a, ha, rfl⟩ := SR
    refine ⟨fun i m H2 => ∃ μ2 st2 acc accD rest, Mid X.K X.mg B.ρ D₀ μ1 H1 (L2.wipe σ vs) (Mi.wipe env vs) μ2 st2 H2 acc accD ∧ compLive g t e (Mi.wipe env vs) l m i st2 = some (.ok rest st') ∧ accD ++ rest = xs,
      ⟨nn, μ1, st1, [], [], xs, M0, e2, rfl⟩, ?_⟩
    rintro i m H2 ⟨μ2, st2, acc, accD, rest, M, hc, hx⟩
    have ha2 : μ2[l]? = some a := M.step.idx ha
    cases m with
    | zero =>
      unfold compLive at hc
      split at hc
      · rename_i ds hl
        split at hc
        · rename_i hle
          cases hc
          rw [List.append_nil] at hx
          subst hx
          obtain ⟨ws, w1, w2⟩ := M.rel.obj l a _ ha2 hl
          exact .inl ⟨⟨ws, SqL.of w1, by rw [w2.length]; exact hle⟩, fin M⟩
        · cases hc
      · cases hc
    | succ m =>
      obtain ⟨ds, d, o, st3, ys, st4, hl, hdi, T, hc2, hr⟩ := compLive_cons hc (fun x s z => nomatch z)
      cases hr
      obtain ⟨ws, w1, w2⟩ := M.rel.obj l a _ ha2 hl
      obtain ⟨v, hv, rv⟩ := w2.get hdi
      refine .inr ⟨⟨ws, v, SqL.of w1, hv⟩, fun H4 => ∃ μ4 acc', Mid X.K X.mg B.ρ D₀ μ1 H1 (L2.wipe σ vs) (Mi.wipe env vs) μ4 st3 H4 acc' (accD ++ o.toList), fun H4 ⟨μ4, acc', M4⟩ => ⟨m, Nat.lt_succ_self _, μ4, st3, acc', _, ys, M4, hc2, by rw [List.append_assoc]; exact hx⟩, fun x H3 y => ?_⟩
      have hxv : x = v := by
        have := y.2 ws (SqL.of w1)
        rw [hv] at this
        exact (Option.some.inj this).symm
      refine turn_ok (it := .one v) M hd rv ⟨hxv, y.1⟩ T ?_ fun μ4 H4 acc' M4 => ⟨μ4, acc', M4⟩
      have := congrArg List.length hx
      simp at this
      omega
theorem cl_comp {elt tg iter : Expr} {ifs : List Expr} {scope : Scope} {own : List (Str × Nat)} {s : I} {g : G} {t : T} {e : E} {dom : List Nat} (hc : X.calm = true) (hN : X.N.Nodup) (hi : CI X B W tg iter s) (ok : BlkOk X.N X.env.scope scope own)
    (hg : ∀ (s : Shared) (H : Hp) (C : Addr) (cl : List (Str × Addr)) (fp : List Addr), CG (X.blk s H scope (compEnvC scope cl C X.env) fp) tg dom g) (ht : ∀ (s : Shared) (H : Hp) (C : Addr) (cl : List (Str × Addr)) (fp : List Addr), CTs (X.blk s H scope (compEnvC scope cl C X.env) fp) ifs t)
    (he : ∀ (s : Shared) (H : Hp) (C : Addr) (cl : List (Str × Addr)) (fp : List Addr) (B' : Base), CE (X.blk s H scope (compEnvC scope cl C X.env) fp) B' WF elt e) (hd : (dom.all fun j => (own.map (·.2)).contains j) = true) (hs : ∀ x, foldedSetIterable iter X.env x = pure x := by intro _; rfl) :
    CL X B W (.ListComp elt [⟨tg, iter, ifs, 0⟩] scope pos) (lComp s g t e (own.map (·.2))) :=
  PE.imp (pe_lc hc hN hi ok hg ht (fun s H C cl fp => cx_of (he s H C cl fp)) hs) (comp_read fun j hj => by
    have := List.all_eq_true.mp hd j hj
    simpa using this)
end
end Mi

set_option Elab.async false
set_option linter.all false
set_option autoImplicit false
set_option maxRecDepth 100000
set_option maxHeartbeats 2000000
/-! Mi: statements, functions. -/
namespace Mi
open PySem PySem.Spec PyProof.Rows L2
/-- an exception of the text's, as it lies -/
def ExR (K : PySem.W.Frag) (mg : Ctx) (μ : List Addr) (H : Hp) (x : Exn) (cls : Value) (d : Option Addr) : Prop :=
  ∃ C, mg.g x.name = some (.ref C) ∧ cls = .ref C ∧ (match x.arg with
    | none => True
    | some u => ∃ a f v, d = some a ∧ H a = some (.xd [(f, v)]) ∧ a ∉ μ ∧ RD K mg μ H v u)
def liftW (K : PySem.W.Frag) (mg : Ctx) (B : Base) (W : Wish) : WX := fun cls d σ H => ∃ μ st env x, Now K mg B μ st H σ env ∧ ExR K mg μ H x cls d ∧ W x env st
section
variable (K : PySem.W.Frag) (mg : Ctx) (B : Base) (W : Wish)
def ResS (μ : List Addr) (H : Hp) (r : RS) (D : Ends) : Prop := match r with
  | .nx env st' => ∀ μ' H' σ', Step μ H μ' H' → Rel K mg μ' st' H' → REnv K mg μ' H' σ' env → D.nx σ' H'
  | .rt d st' => ∀ μ' H' v, Step μ H μ' H' → Rel K mg μ' st' H' → RD K mg μ' H' v d → D.rt v H'
  | .bk env st' => ∀ μ' H' σ', Step μ H μ' H' → Rel K mg μ' st' H' → REnv K mg μ' H' σ' env → D.bk σ' H'
  | .ct env st' => ∀ μ' H' σ', Step μ H μ' H' → Rel K mg μ' st' H' → REnv K mg μ' H' σ' env → D.ct σ' H'
  | .ex x env st' => W x env st'
def tMS (m : S) : TS := fun D σ H => ∃ μ st env, Now K mg B μ st H σ env ∧ ∃ r, m env st = some r ∧ ResS K mg W μ H r D
end
abbrev CS (X : Cx) (B : Base) (W : Wish) (e : Stmt) (m : S) : Prop := PS X e (tMS X.K ⟨X.mg, B.ρ⟩ B W m)
abbrev CSs (X : Cx) (B : Base) (W : Wish) (e : List Stmt) (m : S) : Prop := PSs X e (tMS X.K ⟨X.mg, B.ρ⟩ B W m)
theorem PSs.imp {X : Cx} {e : List Stmt} {t t' : TS} (h : PSs X e t) (k : ∀ D σ H, t' D σ H → t D σ H) : PSs X e t' := ⟨fun pins s σ H D I hw => h.run pins s σ H D I (k D σ H hw)⟩
section
variable {K : PySem.W.Frag} {mg : Ctx} {B : Base} {W : Wish} {μ : List Addr} {st : Store} {H : Hp} {σ : L2.St} {env : Env}
theorem sBnd_inv {α : Type} {m : M α} {f : α → Store → Option RS} {r : RS} (h : sBnd m env f st = some r) : (∃ a st1, m st = some (.ok a st1) ∧ f a st1 = some r) ∨ ∃ x st1, m st = some (.ex x st1) ∧ r = .ex x env st1 := by
  unfold sBnd at h
  split at h
  · rename_i a st1 e; exact .inl ⟨a, st1, e, h⟩
  · rename_i x st1 e; cases h; exact .inr ⟨x, st1, e, rfl⟩
  · cases h
theorem resS_ex {r : RS} {D : Ends} (h : ResS K mg W μ H r D) : ∀ x st1, r = .ex x env st1 → W x env st1 := fun x st1 e => by subst e; exact h
theorem sfirst {m : E} {k : D → Store → Option RS} {r : RS} {D : Ends} {Q : VK} (n : Now K mg B μ st H σ env) (h : sBnd (m env) env k st = some r) (hq : ResS K mg W μ H r D)
    (ok : ∀ d st1 μ1 H1 v, k d st1 = some r → Step μ H μ1 H1 → Now K mg B μ1 st1 H1 σ env → RD K mg μ1 H1 v d → Q v H1) : tM K mg B W m σ H Q := by
  rcases sBnd_inv h with ⟨d, st1, e, h⟩ | ⟨x, st1, e, rfl⟩
  · exact ⟨μ, st, env, n, _, e, fun μ1 H1 v s R r => ok d st1 μ1 H1 v h s (n.next s R) r⟩
  · exact ⟨μ, st, env, n, _, e, hq⟩
theorem sfirstT {m : T} {k : Bool → Store → Option RS} {r : RS} {D : Ends} {Q : Bool → Hp → Prop} (n : Now K mg B μ st H σ env) (h : sBnd (m env) env k st = some r) (hq : ResS K mg W μ H r D)
    (ok : ∀ d st1 μ1 H1, k d st1 = some r → Step μ H μ1 H1 → Now K mg B μ1 st1 H1 σ env → Q d H1) : tMT K mg B W m σ H Q := by
  rcases sBnd_inv h with ⟨d, st1, e, h⟩ | ⟨x, st1, e, rfl⟩
  · exact ⟨μ, st, env, n, _, e, fun μ1 H1 s R => ok d st1 μ1 H1 h s (n.next s R)⟩
  · exact ⟨μ, st, env, n, _, e, hq⟩
/-- behind a step -/
theorem ResS.later {μ1 : List Addr} {H1 : Hp} {st1 : Store} {r : RS} {D : Ends} (R : Rel K mg μ1 st1 H1) (s : Step μ H μ1 H1) (h : ResS K mg W μ H r D) : ResS K mg W μ1 H1 r D := by
  cases r with
  | nx env st' => exact fun μ' H' σ' t R' e => h μ' H' σ' (s.trans R t) R' e
  | rt d st' => exact fun μ' H' σ' t R' e => h μ' H' σ' (s.trans R t) R' e
  | bk env st' => exact fun μ' H' σ' t R' e => h μ' H' σ' (s.trans R t) R' e
  | ct env st' => exact fun μ' H' σ' t R' e => h μ' H' σ' (s.trans R t) R' e
  | ex x env st' => exact h
end
section
variable {X : Cx} {B : Base} {W : Wish} {a b c e o : Expr} {ma mb mo mi m : E} {t : T} {st : Stmt} {sts body : List Stmt} {ms ms2 : S} {pos : Pos}
theorem css_nil : CSs X B W [] sSkip := by
  refine PSs.imp pss_nil ?_
  rintro D σ H ⟨μ, st, env, n, r, h, hq⟩
  cases h
  exact hq _ _ _ (Step.refl _ _) n.rel n.env
theorem css_cons (h1 : CS X B W st ms) (h2 : CSs X B W sts ms2) : CSs X B W (st :: sts) (sSeq ms ms2) := by
  refine PSs.imp (pss_cons h1 h2) ?_
  rintro D σ H ⟨μ, st, env, n, r, h, hq⟩
  unfold sSeq at h
  split at h
  · rename_i env1 st1 e1
    refine ⟨μ, st, env, n, _, e1, fun μ1 H1 σ1 s R re => ?_⟩
    exact ⟨μ1, st1, env1, ⟨n.step.trans n.rel s, R, re⟩, r, h, hq.later R s⟩
  · rename_i hne
    refine ⟨μ, st, env, n, r, h, ?_⟩
    cases r with
    | nx env1 st1 => exact absurd h (hne env1 st1)
    | rt d st' => exact hq
    | bk env st' => exact hq
    | ct env st' => exact hq
    | ex x env st' => exact hq
theorem css_one (h1 : CS X B W st ms) : CSs X B W [st] ms := pss_one h1
theorem cs_pass : CS X B W (.Pass pos) sSkip := by
  refine PS.imp ps_pass ?_
  rintro D σ H ⟨μ, st, env, n, r, h, hq⟩
  cases h
  exact hq _ _ _ (Step.refl _ _) n.rel n.env
theorem cs_break : CS X B W (.Break pos) sBreak := by
  refine PS.imp ps_break ?_
  rintro D σ H ⟨μ, st, env, n, r, h, hq⟩
  cases h
  exact hq _ _ _ (Step.refl _ _) n.rel n.env
theorem cs_cont : CS X B W (.Continue pos) sCont := by
  refine PS.imp ps_continue ?_
  rintro D σ H ⟨μ, st, env, n, r, h, hq⟩
  cases h
  exact hq _ _ _ (Step.refl _ _) n.rel n.env
theorem cs_never : CS X B W st sNever := by
  refine PS.imp ps_never ?_
  rintro D σ H ⟨μ, st, env, n, r, h, hq⟩
  cases h
theorem css_never : CSs X B W sts sNever := by
  refine PSs.imp pss_never ?_
  rintro D σ H ⟨μ, st, env, n, r, h, hq⟩
  cases h
theorem cs_expr (he : CE X B W e m) (hs : swapsWith e none pos.line X.env = pure false := by rfl) : CS X B W (.Expr e pos) (sExpr m) := by
  refine PS.imp (ps_expr he hs) ?_
  rintro D σ H ⟨μ, st, env, n, r, h, hq⟩
  refine sfirst n h hq fun d st1 μ1 H1 v h1 s1 n1 r1 => ?_
  cases h1
  exact hq _ _ _ s1 n1.rel n1.env
theorem cs_ret (he : CE X B W e m) : CS X B W (.Return (some e) pos) (sRet m) := by
  refine PS.imp (ps_ret he) ?_
  rintro D σ H ⟨μ, st, env, n, r, h, hq⟩
  refine sfirst n h hq fun d st1 μ1 H1 v h1 s1 n1 r1 => ?_
  cases h1
  exact hq _ _ _ s1 n1.rel r1
theorem cs_if {c : Expr} {A E : List Stmt} (hc : CT X B W c t) (ha : CSs X B W A ms) (hb : CSs X B W E ms2) : CS X B W (.If c A E pos) (sIf t ms ms2) := by
  refine PS.imp (ps_if hc ha hb) ?_
  rintro D σ H ⟨μ, st, env, n, r, h, hq⟩
  refine sfirstT n h hq fun k st1 μ1 H1 h1 s1 n1 => ?_
  cases k with
  | true =>
    rw [if_pos rfl] at h1 ⊢
    exact ⟨μ1, st1, env, n1, r, h1, hq.later n1.rel s1⟩
  | false =>
    rw [if_neg Bool.false_ne_true] at h1 ⊢
    exact ⟨μ1, st1, env, n1, r, h1, hq.later n1.rel s1⟩
theorem cs_set {i : Nat} {x : Str} {pos' : Pos} (hN : X.N.Nodup) (hi : X.N[i]? = some x) (hx : Loc X.env.scope x) (he : CE X B W e m) (hs : swapsWith e (some (.Name x pos')) pos.line X.env = pure false := by rfl) (hf : X.fn x = true ∨ X.env.scope.names.lookup x = some .local := by first | exact .inl rfl | exact .inr rfl | assumption) :
    CS X B W (.Assign [.Name x pos'] e pos) (sSet i m) := by
  refine PS.imp (ps_set hN hi hx he hs hf) ?_
  rintro D σ H ⟨μ, st, env, n, r, h, hq⟩
  refine sfirst n h hq fun d st1 μ1 H1 v h1 s1 n1 r1 => ?_
  split at h1
  · cases h1
    exact hq _ _ _ s1 n1.rel (n1.env.set r1)
  · cases h1
/-- a, b = e -/
theorem cs_asg {tg : Expr} {dom : List Nat} {g : G} (he : CE X B W e m) (hg : CG X tg dom g) (hs : swapsWithSole [tg] e pos.line X.env = pure false := by rfl) (hw : swappedStores [tg] e X.env = pure none := by rfl)
    (h1 : (assignEach [tg] X.env).map (·.2) = [assign tg X.env] := by rfl) : CS X B W (.Assign [tg] e pos) (sAsg g m) := by
  refine PS.imp (ps_asg he hg hs hw h1) ?_
  rintro D σ H ⟨μ, st, env, n, r, h, hq⟩
  refine sfirst n h hq fun d st1 μ1 H1 v h1 s1 n1 r1 => ?_
  split at h1
  · rename_i env1 hge
    cases h1
    exact ⟨B.ρ, μ1, st1, env, d, env1, n1.rel, n1.env, r1, hge, fun σ' e' _ _ => hq _ _ _ s1 n1.rel e'⟩
  · cases h1
/-- x = [..] with a comprehension, on one line -/
theorem tLc_asg {wi : TI} {g : TG} {tt : TT} {te : TE} {vs : List Nat} {i : Nat} {σ : L2.St} {H : Hp} {D : Ends} (h : tLc wi g tt te vs σ H fun v H1 => D.nx (σ.set i (some v)) H1) : tAsg (tLc wi g tt te vs) (gName i) D σ H := h
theorem cs_setLc {i : Nat} {y : Str} {py : Pos} {elt tg iter : Expr} {ifs : List Expr} {scope : Scope} {own : List (Str × Nat)} {spos : Pos} {s : I} {g : G} {t : T} {e : E} {dom : List Nat} (hc : X.calm = true) (hN : X.N.Nodup) (hy : X.N[i]? = some y) (hyl : X.env.scope.names.lookup y = some .local)
    (hsw : swapsWith (.ListComp elt [⟨tg, iter, ifs, 0⟩] scope pos) (some (.Name y py)) spos.line X.env = pure true) (hi : CI X B W tg iter s) (ok : BlkOk X.N X.env.scope scope own)
    (hg : ∀ (s : Shared) (H : Hp) (C : Addr) (cl : List (Str × Addr)) (fp : List Addr), CG (X.blk s H scope (compEnvC scope cl C X.env) fp) tg dom g) (ht : ∀ (s : Shared) (H : Hp) (C : Addr) (cl : List (Str × Addr)) (fp : List Addr), CTs (X.blk s H scope (compEnvC scope cl C X.env) fp) ifs t)
    (he : ∀ (s : Shared) (H : Hp) (C : Addr) (cl : List (Str × Addr)) (fp : List Addr) (B' : Base), CE (X.blk s H scope (compEnvC scope cl C X.env) fp) B' WF elt e) (hd : (dom.all fun j => (own.map (·.2)).contains j) = true) (hs : ∀ x, foldedSetIterable iter X.env x = pure x := by intro _; rfl) (new : Bool) :
    CS X B W (.Assign [.Name y py] (.ListComp elt [⟨tg, iter, ifs, 0⟩] scope pos) spos) (sSet i (if new then eNew (lComp s g t e (own.map (·.2))) else eL (lComp s g t e (own.map (·.2))))) := by
  refine PS.imp (ps_setLc (te := tMx X.K X.mg e) (tt := tMTx X.K X.mg t) (g := tMG X.K X.mg dom g) hc hN hy hyl hsw hi ok hg ht (fun s H C cl fp => cx_of (he s H C cl fp)) hs) ?_
  rintro D σ H ⟨μ, st, env, n, r, h, hq⟩
  refine tLc_asg (comp_read (B := B) (W := W) (fun j hj => by
    have := List.all_eq_true.mp hd j hj
    simpa using this) σ H _ ?_)
  cases new with
  | true =>
    rw [if_pos rfl] at h
    rcases sBnd_inv h with ⟨d, st1, e1, h1⟩ | ⟨x, st1, e1, rfl⟩
    · rcases bnd_inv e1 with ⟨ds, st2, e2, h2⟩ | ⟨x, st2, e2, z⟩
      · refine ⟨μ, st, env, n, _, e2, fun μ1 H1 p vs s1 R1 f1 f2 r1 => ?_⟩
        cases h2
        split at h1
        · cases h1
          have s2 : Step μ H (μ1 ++ [p]) H1 := by
            obtain ⟨⟨ν, rfl, hν⟩, k⟩ := s1
            exact ⟨⟨ν ++ [p], List.append_assoc .., fun q hq => by
              rcases List.mem_append.mp hq with z | z
              · exact hν q z
              · simp at z; subst z; exact f1⟩, k⟩
          have R2 := R1.take_in f2 r1
          exact hq _ _ _ s2 R2 ((n.next s2 R2).env.set (.loc (by rw [← R1.len]; simp)))
        · cases h1
      · cases z
    · rcases bnd_inv e1 with ⟨ds, st2, e2, h2⟩ | ⟨x', st2, e2, z⟩
      · cases h2
      · cases z
        exact ⟨μ, st, env, n, _, e2, hq⟩
  | false =>
    rw [if_neg Bool.false_ne_true] at h
    rcases sBnd_inv h with ⟨d, st1, e1, h1⟩ | ⟨x, st1, e1, rfl⟩
    · rcases bnd_inv e1 with ⟨ds, st2, e2, h2⟩ | ⟨x, st2, e2, z⟩
      · refine ⟨μ, st, env, n, _, e2, fun μ1 H1 p vs s1 R1 f1 f2 r1 => ?_⟩
        cases h2
        split at h1
        · cases h1
          exact hq _ _ _ s1 R1.free ((n.next s1 R1.free).env.set (.lst (R1.res p List.mem_cons_self).1 (List.nodup_cons.mp R1.rn).1 f2 r1.free))
        · cases h1
      · cases z
    · rcases bnd_inv e1 with ⟨ds, st2, e2, h2⟩ | ⟨x', st2, e2, z⟩
      · cases h2
      · cases z
        exact ⟨μ, st, env, n, _, e2, hq⟩
/-- x op= e -/
theorem cs_augI {i : Nat} {x : Str} {op : Operator} {f : Int → Int → Int} {fd : Op} {pos' : Pos} (hN : X.N.Nodup) (hi : X.N[i]? = some x) (hx : Loc X.env.scope x) (he : CE X B W e m) (ho : PIp X op (ipI f)) (hfd : ∀ x y d, fd x y = some d → ∃ i j, x = .int i ∧ y = .int j ∧ d = .int (f i j)) (hf : X.fn x = true ∨ X.env.scope.names.lookup x = some .local := by first | exact .inl rfl | exact .inr rfl | assumption) :
    CS X B W (.AugAssign (.Name x pos') op e pos) (sAug i fd m) := by
  refine PS.imp (ps_aug hN hi hx he ho hf) ?_
  rintro D σ H ⟨μ, st, env, n, r, h, hq⟩
  have hv : ∃ dx, env[i]? = some (some dx) ∧ sBnd (m env) env (fun y st1 => match fd dx y with | some d => some (.nx (env.set i (some d)) st1) | none => none) st = some r := by
    have h : sBnd (bnd (eVar i env) fun x => bnd (m env) fun y => need (fd x y)) env (fun d st => some (.nx (env.set i (some d)) st)) st = some r := h
    rcases sBnd_inv h with ⟨d, st1, e1, h1⟩ | ⟨x, st1, e1, rfl⟩
    · rcases bnd_inv e1 with ⟨dx, st2, e2, h2⟩ | ⟨x, st2, e2, z⟩
      · obtain ⟨dx', e3, z⟩ := need_inv e2
        cases z
        have e' : env[i]? = some (some dx) := by
          split at e3
          · rename_i u q; cases e3; exact q
          · cases e3
        refine ⟨dx, e', ?_⟩
        rcases bnd_inv h2 with ⟨dy, st3, e4, h3⟩ | ⟨x, st3, e4, z⟩
        · obtain ⟨dz, e5, z⟩ := need_inv h3
          cases z
          cases h1
          unfold sBnd
          rw [e4]
          dsimp only
          rw [e5]
        · cases z
      · cases z
    · rcases bnd_inv e1 with ⟨dx, st2, e2, h2⟩ | ⟨x', st2, e2, z⟩
      · obtain ⟨dx', e3, z⟩ := need_inv e2
        cases z
        have e' : env[i]? = some (some dx) := by
          split at e3
          · rename_i u q; cases e3; exact q
          · cases e3
        refine ⟨dx, e', ?_⟩
        rcases bnd_inv h2 with ⟨dy, st3, e4, h3⟩ | ⟨x', st3, e4, z⟩
        · obtain ⟨dz, e5, z⟩ := need_inv h3
          cases z
        · cases z
          unfold sBnd
          rw [e4]
      · obtain ⟨dx', e3, z⟩ := need_inv e2
        cases z
  obtain ⟨dx, e', h⟩ := hv
  obtain ⟨v, h1, h2⟩ := n.env.val i dx e'
  refine ⟨v, h1, sfirst n h hq fun d st1 μ1 H1 u h1 s1 n1 r1 => ?_⟩
  split at h1
  · rename_i dz e5
    cases h1
    obtain ⟨k, j, rfl, rfl, rfl⟩ := hfd _ _ _ e5
    cases h2; cases r1
    exact ⟨k, j, rfl, rfl, hq _ _ _ s1 n1.rel (n1.env.set (.int _))⟩
  · cases h1
theorem aug_add : ∀ x y d, oAdd x y = some d → (∃ i j : Int, x = .int i ∧ y = .int j) → ∃ i j, x = .int i ∧ y = .int j ∧ d = .int (i + j) := fun x y d h ⟨i, j, e1, e2⟩ => by
  subst e1; subst e2
  cases h
  exact ⟨i, j, rfl, rfl, rfl⟩
/-- + of ints -/
def oAddI : Op
  | .int i, .int j => some (.int (i + j))
  | _, _ => none
theorem cs_augAdd {i : Nat} {x : Str} {pos' : Pos} (hN : X.N.Nodup) (hi : X.N[i]? = some x) (hx : Loc X.env.scope x) (he : CE X B W e m) (hf : X.fn x = true ∨ X.env.scope.names.lookup x = some .local := by first | exact .inl rfl | exact .inr rfl | assumption) :
    CS X B W (.AugAssign (.Name x pos') .Add e pos) (sAug i oAddI m) :=
  cs_augI hN hi hx he ip_add (fun x y d h => by
    cases x <;> cases y <;> simp only [oAddI] at h <;> try (cases h; done)
    cases h
    exact ⟨_, _, rfl, rfl, rfl⟩) hf
/-- o[i] = e, o a list of the store -/
theorem cs_put {i : Expr} {tpos : Pos} (ho : CE X B W o mo) (hi : CE X B W i mi) (he : CE X B W e m) (hs : swapsWithSole [.Subscript o i tpos] e pos.line X.env = pure false := by rfl) (hw : swappedStores [.Subscript o i tpos] e X.env = pure none := by rfl)
    (h1 : (assignEach [.Subscript o i tpos] X.env).map (·.2) = [assign (.Subscript o i tpos) X.env] := by rfl)
    (ha : ∀ v, assign (.Subscript o i tpos) X.env v = (do
      let ov ← holding [v] (eval o X.env)
      let iv ← holding [v, ov] (eval i X.env)
      standAt tpos
      holding [v, ov, iv] (setItem ov iv v)
      release [v, ov, iv] []) := by intro _; rfl) : CS X B W (.Assign [.Subscript o i tpos] e pos) (sPut mo mi m) := by
  refine PS.imp (ps_asg he (pg_sub ho hi set_list ha) hs hw h1) ?_
  rintro D σ H ⟨μ, st, env, n, r, h, hq⟩
  refine sfirst n h hq fun d st1 μ1 H1 v h1 s1 n1 r1 => ?_
  rcases sBnd_inv h1 with ⟨p, st2, e1, h2⟩ | ⟨x, st2, e1, rfl⟩
  · show tM _ _ _ _ _ _ _ _
    rcases bnd_inv e1 with ⟨ox, st3, e2, h3⟩ | ⟨x, st3, e2, z⟩
    · refine ⟨μ1, st1, env, n1, _, e2, fun μ2 H2 u s2 R2 r2 => ?_⟩
      have n2 := n1.next s2 R2
      rcases bnd_inv h3 with ⟨ix, st4, e3, h4⟩ | ⟨x, st4, e3, z⟩
      · refine ⟨μ2, st3, env, n2, _, e3, fun μ3 H3 w s3 R3 r3 => ?_⟩
        have n3 := n2.next s3 R3
        cases ret_inv h4
        have r1' := (r1.step n1.rel s2).step n2.rel s3
        have r2' := r2.step n2.rel s3
        split at h2
        · rename_i l k hp
          cases hp
          split at h2
          · rename_i ds hl
            split at h2
            · rename_i j hj
              cases h2
              cases r3
              cases r2' with
              | loc ha =>
                obtain ⟨vs, q1, q2⟩ := n3.rel.obj _ _ _ ha hl
                refine ⟨_, vs, k, j, rfl, rfl, q1, by rw [q2.length]; exact hj, ?_⟩
                have s4 : Step μ3 H3 μ3 (upd H3 _ (.lst (vs.set j v))) := Step.put ha
                have R4 := n3.rel.put ha (q2.set r1' j)
                exact hq _ _ _ (((s1.trans n1.rel s2).trans n2.rel s3).trans n3.rel s4) R4 (n3.env.step n3.rel s4)
            · cases h2
          · cases h2
        · cases h2
      · cases z
    · cases z
  · show tM _ _ _ _ _ _ _ _
    rcases bnd_inv e1 with ⟨ox, st3, e2, h3⟩ | ⟨x', st3, e2, z⟩
    · refine ⟨μ1, st1, env, n1, _, e2, fun μ2 H2 u s2 R2 r2 => ?_⟩
      rcases bnd_inv h3 with ⟨ix, st4, e3, h4⟩ | ⟨x', st4, e3, z⟩
      · cases ret_inv h4
      · cases z
        exact ⟨μ2, st3, env, n1.next s2 R2, _, e3, hq⟩
    · cases z
      exact ⟨μ1, st1, env, n1, _, e2, hq⟩
theorem tyV_list {K : PySem.W.Frag} {mg : Ctx} {μ : List Addr} {H : Hp} {st : Store} {l : Nat} {v : V} {ds : List D} (R : Rel K mg μ st H) (r : RD K mg μ H v (.loc l)) (h : st[l]? = some (.lst ds)) : tyV K "list" v H := by
  cases r with
  | loc ha =>
    obtain ⟨vs, q1, q2⟩ := R.obj _ _ _ ha h
    exact .inl ⟨rfl, vs, SqL.of q1⟩
theorem loc_first {m : E} {β : Type} {mg : Ctx} {K : PySem.W.Frag} {k : Nat → M β} {r : R β} {μ : List Addr} {st0 : Store} {H : Hp} {σ : L2.St} {env : Env} {Q : VK} (n : Now K mg B μ st0 H σ env) (h : bnd (eLoc m env) k st0 = some r) (hx : ∀ x st1, r = .ex x st1 → W x env st1)
    (ok : ∀ l a ds st1 μ1 H1, k l st1 = some r → Step μ H μ1 H1 → Now K mg B μ1 st1 H1 σ env → μ1[l]? = some a → st1[l]? = some (.lst ds) → Q (.ref a) H1) : tM K mg B W m σ H Q := by
  have h' : bnd (m env) (fun x => bnd (look fun st => match x with | .loc l => (match st[l]? with | some (.lst _) => some l | _ => none) | _ => none) k) st0 = some r := by
    rw [← bnd_assoc]; exact h
  refine first n h' hx fun d st1 μ1 H1 v h1 s1 n1 r1 => ?_
  rcases bnd_inv h1 with ⟨l, st2, e, h2⟩ | ⟨x, st2, e, rfl⟩
  · obtain ⟨l', e2, z⟩ := look_inv e
    cases z
    split at e2
    · rename_i l2
      split at e2
      · rename_i ds hl
        cases e2
        cases r1 with
        | loc ha => exact ok _ _ ds _ _ _ h2 s1 n1 ha hl
      · cases e2
    · cases e2
  · obtain ⟨l', e2, z⟩ := look_inv e
    cases z
theorem cs_app {apos : Pos} (ho : CE X B W o mo) (he : CE X B W e m) (hbase : attributeBase o "append" X.env (eval o X.env) = eval o X.env := by rfl) (hline : (apos.endLine == pos.line) = true := by rfl)
    (hfew : ((backTo pos (starEach (e :: []) X.env)).all (fun x => !x.1) && (backToKw pos (keywordEach [] X.env)).all (fun x => x.1.isSome)
      && decide ((e :: []).length + ([] : List Keyword).length + (if ([] : List Keyword).isEmpty then 0 else 1) < 30)) = true := by rfl)
    (he1 : starEach (e :: []) X.env = (false, eval e X.env) :: starEach [] X.env := by rfl) (hpl : (backTo pos (starEach [] X.env)).any (·.1) = false := by rfl) {pos2 : Pos} (hs2 : swapsWith (.Call (.Attribute o "append" apos) [e] [] pos) none pos2.line X.env = pure false := by rfl) :
    CS X B W (.Expr (.Call (.Attribute o "append" apos) [e] [] pos) pos2) (sApp mo m) := by
  refine PS.imp (ps_expr (pe_bm PySem.F.plainAttrs_list PySem.F.slot_list_append PySem.F.type_list_append mt_append ho (pa_cons he pa_nil he1) hbase hfew hline he1 hpl) hs2) ?_
  rintro D σ H ⟨μ, st, env, n, r, h, hq⟩
  unfold sApp at h
  rcases sBnd_inv h with ⟨p, st1, e1, h1⟩ | ⟨x, st1, e1, rfl⟩
  · refine loc_first (W := W) n e1 (fun x st1 z => nomatch z) fun l a ds st2 μ1 H1 h2 s1 n1 ha hl => ?_
    refine ⟨tyV_list n1.rel (.loc ha) hl, ?_⟩
    refine first n1 h2 (fun x st1 z => nomatch z) fun d st3 μ2 H2 v h3 s2 n2 r2 => ?_
    cases ret_inv h3
    dsimp only at h1
    split at h1
    · rename_i ds2 hl2
      split at h1
      · rename_i hz
        cases h1
        have ha2 := s2.idx ha
        obtain ⟨vs, q1, q2⟩ := n2.rel.obj _ _ _ ha2 hl2
        refine ⟨a, vs, v, rfl, rfl, q1, by rw [q2.length, sizeLine_eq]; exact of_decide_eq_true hz, ?_⟩
        have s3 : Step μ2 H2 μ2 (upd H2 a (.lst (vs ++ [v]))) := Step.put ha2
        have R3 := n2.rel.put ha2 (q2.app (.cons r2 .nil))
        exact hq _ _ _ ((s1.trans n1.rel s2).trans n2.rel s3) R3 (n2.env.step n2.rel s3)
      · cases h1
    · cases h1
  · refine loc_first (W := W) n e1 (fun x' st1' z => by cases z; exact hq) fun l a ds st2 μ1 H1 h2 s1 n1 ha hl => ?_
    refine ⟨tyV_list n1.rel (.loc ha) hl, ?_⟩
    refine first n1 h2 (fun x' st1' z => by cases z; exact hq) fun d st3 μ2 H2 v h3 s2 n2 r2 => ?_
    cases ret_inv h3
theorem cs_ext {apos : Pos} (ho : CE X B W o mo) (he : CE X B W e m) (hbase : attributeBase o "extend" X.env (eval o X.env) = eval o X.env := by rfl) (hfew : ((backTo pos (starEach (e :: []) X.env)).all (fun x => !x.1) && (backToKw pos (keywordEach [] X.env)).all (fun x => x.1.isSome)
      && decide ((e :: []).length + ([] : List Keyword).length + (if ([] : List Keyword).isEmpty then 0 else 1) < 30)) = true := by rfl) (hline : (apos.endLine == pos.line) = true := by rfl)
    (he1 : starEach (e :: []) X.env = (false, eval e X.env) :: starEach [] X.env := by rfl) (hpl : (backTo pos (starEach [] X.env)).any (·.1) = false := by rfl) {pos2 : Pos} (hs2 : swapsWith (.Call (.Attribute o "extend" apos) [e] [] pos) none pos2.line X.env = pure false := by rfl) :
    CS X B W (.Expr (.Call (.Attribute o "extend" apos) [e] [] pos) pos2) (sExt mo m) := by
  refine PS.imp (ps_expr (pe_bm PySem.F.plainAttrs_list PySem.F.slot_list_extend PySem.F.type_list_extend mt_extend ho (pa_cons he pa_nil he1) hbase hfew hline he1 hpl) hs2) ?_
  rintro D σ H ⟨μ, st, env, n, r, h, hq⟩
  unfold sExt at h
  rcases sBnd_inv h with ⟨p, st1, e1, h1⟩ | ⟨x, st1, e1, rfl⟩
  · refine loc_first (W := W) n e1 (fun x st1 z => nomatch z) fun l a ds st2 μ1 H1 h2 s1 n1 ha hl => ?_
    refine ⟨tyV_list n1.rel (.loc ha) hl, ?_⟩
    refine first n1 h2 (fun x st1 z => nomatch z) fun d st3 μ2 H2 v h3 s2 n2 r2 => ?_
    rcases bnd_inv h3 with ⟨xs, st4, e4, h4⟩ | ⟨x, st4, e4, z⟩
    case inr => cases z
    obtain ⟨xs', e5, z⟩ := look_inv e4
    cases z
    cases ret_inv h4
    dsimp only at h1
    split at h1
    · rename_i ds2 hl2
      split at h1
      · rename_i hz
        cases h1
        have ha2 := s2.idx ha
        obtain ⟨vs, q1, q2⟩ := n2.rel.obj _ _ _ ha2 hl2
        obtain ⟨b, ws, rfl, w1, w2⟩ := lst_of n2.rel r2 e5
        refine ⟨a, b, vs, ws, rfl, rfl, q1, w1, by rw [q2.length, w2.length]; exact oklen hz, ?_⟩
        have s3 : Step μ2 H2 μ2 (upd H2 a (.lst (vs ++ ws))) := Step.put ha2
        have R3 := n2.rel.put ha2 (q2.app w2)
        exact hq _ _ _ ((s1.trans n1.rel s2).trans n2.rel s3) R3 (n2.env.step n2.rel s3)
      · cases h1
    · cases h1
  · refine loc_first (W := W) n e1 (fun x' st1' z => by cases z; exact hq) fun l a ds st2 μ1 H1 h2 s1 n1 ha hl => ?_
    refine ⟨tyV_list n1.rel (.loc ha) hl, ?_⟩
    refine first n1 h2 (fun x' st1' z => by cases z; exact hq) fun d st3 μ2 H2 v h3 s2 n2 r2 => ?_
    rcases bnd_inv h3 with ⟨xs, st4, e4, h4⟩ | ⟨x, st4, e4, z⟩
    · cases ret_inv h4
    · obtain ⟨xs', e5, z'⟩ := look_inv e4
      cases z'
end
end Mi

set_option Elab.async false
set_option linter.all false
set_option autoImplicit false
set_option maxRecDepth 100000
set_option maxHeartbeats 2000000
/-! Mi: loops, calls, functions. -/
namespace Mi
open PySem PySem.Spec PyProof.Rows L2
section
variable {X : Cx} {B : Base} {W : Wish} {a b c e o : Expr} {ma mb mo mi m : E} {t : T} {st : Stmt} {sts body : List Stmt} {ms ms2 : S} {pos p : Pos}
theorem cs_for {tg iter : Expr} {s : I} {g : G} {dom : List Nat} (hp : PassesOwn (model X.prog X.w) X.A X.env X.xe) (hc : X.calm = true) (hi : CI X B W tg iter s) (hg : CG X tg dom g) (hb : CSs X B W body ms) (hs : ∀ x, foldedSetIterable iter X.env x = pure x := by intro _; rfl) :
    CS X B W (.For tg iter body [] pos) (sFor s g ms) := by
  refine PS.imp (ps_for hp hc hi hg hb hs) ?_
  rintro D σ H ⟨μ, st, env, n, r, h, hq⟩
  rcases sBnd_inv h with ⟨src, st1, e1, h1⟩ | ⟨x, st1, e1, rfl⟩
  case inr => exact ⟨μ, st, env, n, _, e1, hq⟩
  refine ⟨μ, st, env, n, _, e1, fun μ1 H1 J s1 R1 SR live => ?_⟩
  have n1 := n.next s1 R1
  -- what is wanted behind a turn of the body
  have turn : ∀ {μ2 : List Addr} {st2 : Store} {H2 H3 : Hp} {σ2 : L2.St} {env2 env3 : Env} {it : Item} {d : Mi.D} {x : V} {rb : RS} {N : L2.St → Hp → Prop}, Step μ1 H1 μ2 H2 → Rel X.K ⟨X.mg, B.ρ⟩ μ2 st2 H2 → REnv X.K ⟨X.mg, B.ρ⟩ μ2 H2 σ2 env2 → ItR X.K ⟨X.mg, B.ρ⟩ μ2 H2 it d → Hands H2 it x H3 →
      g d env2 = some env3 → ms env3 st2 = some rb → (∀ μ4 H4 σ4 env4 st4, (rb = .nx env4 st4 ∨ rb = .ct env4 st4) → Step μ1 H1 μ4 H4 → Rel X.K ⟨X.mg, B.ρ⟩ μ4 st4 H4 → REnv X.K ⟨X.mg, B.ρ⟩ μ4 H4 σ4 env4 → N σ4 H4) →
      (∀ env4 st4, rb = .bk env4 st4 → r = .nx env4 st4) → (∀ d st4, rb = .rt d st4 → r = .rt d st4) → (∀ x env4 st4, rb = .ex x env4 st4 → r = .ex x env4 st4) →
      tMG X.K X.mg dom g x σ2 H3 fun σ4 H4 => tMS X.K ⟨X.mg, B.ρ⟩ B W ms { D with nx := N, ct := N, bk := D.nx } σ4 H4 := by
    intro μ2 st2 H2 H3 σ2 env2 env3 it d x rb N s2 R2 re2 ir hy hg hb k1 k2 k3 k4
    obtain ⟨s3, R3, rd⟩ := hands_rd R2 ir hy
    have s23 := s2.trans R2 s3
    refine ⟨B.ρ, μ2, st2, env2, d, env3, R3, re2.step R2 s3, rd, hg, fun σ4 re4 _ _ => ?_⟩
    refine ⟨μ2, st2, env3, ⟨n1.step.trans R1 s23, R3, re4⟩, rb, hb, ?_⟩
    cases rb with
    | nx env4 st4 => exact fun μ' H' σ' s R re => k1 μ' H' σ' env4 st4 (.inl rfl) (s23.trans R3 s) R re
    | ct env4 st4 => exact fun μ' H' σ' s R re => k1 μ' H' σ' env4 st4 (.inr rfl) (s23.trans R3 s) R re
    | bk env4 st4 =>
      have := k2 env4 st4 rfl
      subst this
      exact fun μ' H' σ' s R re => hq μ' H' σ' ((s1.trans R1 s23).trans R3 s) R re
    | rt d st4 =>
      have := k3 d st4 rfl
      subst this
      exact fun μ' H' σ' s R re => hq μ' H' σ' ((s1.trans R1 s23).trans R3 s) R re
    | ex x env4 st4 =>
      have := k4 x env4 st4 rfl
      subst this
      exact hq
  cases src with
  | fix ds =>
    obtain ⟨its, i1, i2⟩ := SR
    have il := i1.length
    refine ⟨fun i m σ2 H2 => ∃ μ2 st2 env2, m = ds.length - i ∧ i ≤ ds.length ∧ Step μ1 H1 μ2 H2 ∧ Rel X.K ⟨X.mg, B.ρ⟩ μ2 st2 H2 ∧ REnv X.K ⟨X.mg, B.ρ⟩ μ2 H2 σ2 env2 ∧ forFix g ms (ds.drop i) env2 st2 = some r,
      ⟨ds.length, μ1, st1, env, by omega, Nat.zero_le _, Step.refl _ _, R1, n1.env, h1⟩, ?_⟩
    rintro i m σ2 H2 ⟨μ2, st2, env2, rfl, hi, s2, R2, re2, hf⟩
    by_cases hlt : i < ds.length
    · have hdi : ds[i]? = some ds[i] := List.getElem?_eq_getElem hlt
      obtain ⟨it, hit, ir⟩ := (ItsR.step R1 s2 i1).get hdi
      obtain ⟨go, yl⟩ := (i2 H2 s2.kp i).1 it hit
      rw [List.drop_eq_getElem_cons hlt] at hf
      unfold forFix at hf
      split at hf
      · cases hf
      · rename_i env3 hg3
        refine .inr ⟨go, fun σ' H' => ∃ μ3 st3 env4, Step μ1 H1 μ3 H' ∧ Rel X.K ⟨X.mg, B.ρ⟩ μ3 st3 H' ∧ REnv X.K ⟨X.mg, B.ρ⟩ μ3 H' σ' env4 ∧ forFix g ms (ds.drop (i + 1)) env4 st3 = some r,
          fun σ' H' ⟨μ3, st3, env4, a1, a2, a3, a4⟩ => ⟨ds.length - (i + 1), by omega, μ3, st3, env4, rfl, hlt, a1, a2, a3, a4⟩, fun x H3 y => ?_⟩
        cases hb3 : ms env3 st2 with
        | none => rw [hb3] at hf; cases hf
        | some rb =>
          rw [hb3] at hf
          refine turn s2 R2 re2 ir (yl x H3 y) hg3 hb3 (fun μ4 H4 σ4 env4 st4 hr a1 a2 a3 => ⟨μ4, st4, env4, a1, a2, a3, ?_⟩) ?_ ?_ ?_
          · rcases hr with rfl | rfl <;> exact hf
          · rintro env4 st4 rfl; exact (Option.some.inj hf).symm
          · rintro d st4 rfl; exact (Option.some.inj hf).symm
          · rintro x env4 st4 rfl; exact (Option.some.inj hf).symm
    · have e : i = ds.length := by omega
      subst e
      rw [List.drop_length] at hf
      cases hf
      exact .inl ⟨(i2 H2 s2.kp _).2 il, hq _ _ _ (s1.trans R1 s2) R2 re2⟩
  | live l nn =>
    obtain ⟨a, ha, rfl⟩ := SR
    refine ⟨fun i m σ2 H2 => ∃ μ2 st2 env2, Step μ1 H1 μ2 H2 ∧ Rel X.K ⟨X.mg, B.ρ⟩ μ2 st2 H2 ∧ REnv X.K ⟨X.mg, B.ρ⟩ μ2 H2 σ2 env2 ∧ forLive g ms l m i env2 st2 = some r,
      ⟨nn, μ1, st1, env, Step.refl _ _, R1, n1.env, h1⟩, ?_⟩
    rintro i m σ2 H2 ⟨μ2, st2, env2, s2, R2, re2, hf⟩
    have ha2 := s2.idx ha
    cases m with
    | zero =>
      unfold forLive at hf
      split at hf
      · rename_i ds hl
        split at hf
        · rename_i hle
          cases hf
          obtain ⟨ws, w1, w2⟩ := R2.obj l a _ ha2 hl
          exact .inl ⟨⟨ws, SqL.of w1, by rw [w2.length]; exact hle⟩, hq _ _ _ (s1.trans R1 s2) R2 re2⟩
        · cases hf
      · cases hf
    | succ m =>
      unfold forLive at hf
      split at hf
      · rename_i ds hl
        split at hf
        · cases hf
        · rename_i d hdi
          split at hf
          · cases hf
          · rename_i env3 hg3
            obtain ⟨ws, w1, w2⟩ := R2.obj l a _ ha2 hl
            obtain ⟨v, hv, rv⟩ := w2.get hdi
            refine .inr ⟨⟨ws, v, SqL.of w1, hv⟩, fun σ' H' => ∃ μ3 st3 env4, Step μ1 H1 μ3 H' ∧ Rel X.K ⟨X.mg, B.ρ⟩ μ3 st3 H' ∧ REnv X.K ⟨X.mg, B.ρ⟩ μ3 H' σ' env4 ∧ forLive g ms l m (i + 1) env4 st3 = some r,
              fun σ' H' ⟨μ3, st3, env4, a1, a2, a3, a4⟩ => ⟨m, Nat.lt_succ_self _, μ3, st3, env4, a1, a2, a3, a4⟩, fun x H3 y => ?_⟩
            have hxv : x = v := by
              have := y.2 ws (SqL.of w1)
              rw [hv] at this
              exact (Option.some.inj this).symm
            cases hb3 : ms env3 st2 with
            | none => rw [hb3] at hf; cases hf
            | some rb =>
              rw [hb3] at hf
              refine turn (it := .one v) s2 R2 re2 rv ⟨hxv, y.1⟩ hg3 hb3 (fun μ4 H4 σ4 env4 st4 hr a1 a2 a3 => ⟨μ4, st4, env4, a1, a2, a3, ?_⟩) ?_ ?_ ?_
              · rcases hr with rfl | rfl <;> exact hf
              · rintro env4 st4 rfl; exact (Option.some.inj hf).symm
              · rintro d st4 rfl; exact (Option.some.inj hf).symm
              · rintro x env4 st4 rfl; exact (Option.some.inj hf).symm
      · cases hf
theorem cs_while {c : Expr} (fuel : Nat) (hp : PassesOwn (model X.prog X.w) X.A X.env X.xe) (hc : CT X B W c t) (hb : CSs X B W body ms) : CS X B W (.While c body [] pos) (sWhile fuel t ms) := by
  refine PS.imp (ps_while hp hc hb) ?_
  rintro D σ H ⟨μ, st, env, n, r, h, hq⟩
  refine ⟨fun m σ2 H2 => ∃ μ2 st2 env2, Step μ H μ2 H2 ∧ Rel X.K ⟨X.mg, B.ρ⟩ μ2 st2 H2 ∧ REnv X.K ⟨X.mg, B.ρ⟩ μ2 H2 σ2 env2 ∧ whN t ms m env2 st2 = some r, ⟨fuel, μ, st, env, Step.refl _ _, n.rel, n.env, h⟩, ?_⟩
  rintro m σ2 H2 ⟨μ2, st2, env2, s2, R2, re2, hw⟩
  cases m with
  | zero => cases hw
  | succ m =>
    unfold whN at hw
    have n2 : Now X.K ⟨X.mg, B.ρ⟩ B μ2 st2 H2 σ2 env2 := ⟨n.step.trans n.rel s2, R2, re2⟩
    refine sfirstT n2 hw (hq.later R2 s2) fun k st3 μ3 H3 h3 s3 n3 => ?_
    cases k with
    | true =>
      rw [if_pos rfl] at h3
      rw [if_pos rfl]
      have s13 := s2.trans R2 s3
      refine ⟨fun σ' H' => ∃ μ3 st3 env4, Step μ H μ3 H' ∧ Rel X.K ⟨X.mg, B.ρ⟩ μ3 st3 H' ∧ REnv X.K ⟨X.mg, B.ρ⟩ μ3 H' σ' env4 ∧ whN t ms m env4 st3 = some r, fun σ' H' ⟨μ3, st3, env4, a1, a2, a3, a4⟩ => ⟨m, Nat.lt_succ_self _, μ3, st3, env4, a1, a2, a3, a4⟩, ?_⟩
      cases hb3 : ms env2 st3 with
      | none => rw [hb3] at h3; cases h3
      | some rb =>
        rw [hb3] at h3
        refine ⟨μ3, st3, env2, n3, rb, hb3, ?_⟩
        cases rb with
        | nx env4 st4 => exact fun μ' H' σ' s R re => ⟨μ', st4, env4, s13.trans n3.rel s, R, re, h3⟩
        | ct env4 st4 => exact fun μ' H' σ' s R re => ⟨μ', st4, env4, s13.trans n3.rel s, R, re, h3⟩
        | bk env4 st4 =>
          cases h3
          exact fun μ' H' σ' s R re => hq μ' H' σ' (s13.trans n3.rel s) R re
        | rt d st4 =>
          cases h3
          exact fun μ' H' σ' s R re => hq μ' H' σ' (s13.trans n3.rel s) R re
        | ex x env4 st4 =>
          cases h3
          exact hq
    | false =>
      rw [if_neg Bool.false_ne_true] at h3
      rw [if_neg Bool.false_ne_true]
      cases h3
      exact hq _ _ _ (s2.trans R2 s3) n3.rel n3.env
end

/-! ### functions -/
/-- a def's promise: it does what f says -/
def spF (K : PySem.W.Frag) (mg : Str → Option Value) (n : Nat) (f : Fn) : Sp := fun vs H Q E => vs.length = n ∧ ∃ ρ μ st ds, Rel K ⟨mg, ρ⟩ μ st H ∧ RDs K ⟨mg, ρ⟩ μ H vs ds ∧ ∃ r, f ds st = some r ∧ (match r with
  | .ok d st' => ∀ μ' H' v, Step μ H μ' H' → Rel K ⟨mg, ρ⟩ μ' st' H' → RD K ⟨mg, ρ⟩ μ' H' v d → Q v H'
  | .ex x st' => ∀ μ' H' cls d, Step μ H μ' H' → Rel K ⟨mg, ρ⟩ μ' st' H' → ExR K ⟨mg, ρ⟩ μ' H' x cls d → E cls d H')
section
variable {X : Cx} {B : Base} {W : Wish} {e : Expr} {es : List Expr} {pos p : Pos}
theorem takes_wf (hx : ∀ e s, X.xe e s ↔ False) {mg : Ctx} : Takes X (liftW X.K mg B WF) := fun u s' ⟨a, B', sI, pins, σ, H, cls, d, e, I, nb, up, sky, na, os, ag, w⟩ => by
  obtain ⟨μ, st, env, x, _, _, z⟩ := w
  exact z.elim
theorem ce_call {x : Str} {f : Addr} {fd : FuncData} {ps : List Str} {k : Nat} {n : Nat} {sem : Fn} {ma : EL} (F : FnOk X.prog X.w X.K X.mg X.base (L2.CX X.prog X.w) k f fd ps (spF X.K X.mg n sem)) (hr : Room k X.A) (hg : Gl X x) (hm : X.mg x = some (.ref f)) (hk : PySem.W.keepIn X.K (.ref f) = true) (hb : Binds X.K fd ps [])
    (tk : Takes X (liftW X.K ⟨X.mg, B.ρ⟩ B W)) (ha : CA X B W (e :: es) ma) (hn : (e :: es).length = n) (hln : ∀ env st ds st', ma env st = some (.ok ds st') → ds.length = n) (hdb : (x == ("__debug__" : Str)) = false := by decide) (he : starEach (e :: es) X.env = (false, eval e X.env) :: starEach es X.env := by rfl) (hpl : (backTo pos (starEach es X.env)).any (·.1) = false := by rfl) :
    CE X B W (.Call (.Name x p) (e :: es) [] pos) (eCall sem ma) := by
  refine PE.imp (pe_callS F hr hg hm hk hb (fun σ => passAt tk σ) ha hdb he hpl) ?_
  rintro σ H Q ⟨μ, st, env, n, r, h, hq⟩
  rcases bnd_inv h with ⟨ds, st1, e1, h1⟩ | ⟨x, st1, e1, rfl⟩
  case inr => exact ⟨μ, st, env, n, _, e1, hq⟩
  refine ⟨μ, st, env, n, _, e1, fun μ1 H1 vs s1 R1 rs => ?_⟩
  have n1 := n.next s1 R1
  refine ⟨by rw [rs.length]; exact hln _ _ _ _ e1, B.ρ, μ1, st1, ds, R1, rs, r, h1, ?_⟩
  cases r with
  | ok d st' => exact fun μ' H' v s R rd => hq μ' H' v (s1.trans R1 s) R rd
  | ex x st' => exact fun μ' H' cls d s R xr => ⟨μ', st', env, x, n1.next s R, xr, hq⟩
theorem eCons_len {a : E} {r : EL} {n : Nat} (h : ∀ env st ds st', r env st = some (.ok ds st') → ds.length = n) : ∀ env st ds st', eCons a r env st = some (.ok ds st') → ds.length = n + 1 := by
  intro env st ds st' e
  rcases bnd_inv e with ⟨d, st1, e1, e⟩ | ⟨x, st1, e1, z⟩
  · rcases bnd_inv e with ⟨ds', st2, e2, e⟩ | ⟨x, st2, e2, z⟩
    · cases e
      rw [List.length_cons, h _ _ _ _ e2]
    · cases z
  · cases z
theorem eNil_len : ∀ env st ds st', eNil env st = some (.ok ds st') → ds.length = 0 := by
  intro env st ds st' e
  cases e
  rfl
end
section
variable {P : Program} {w : World} {K : PySem.W.Frag} {mg : Str → Option Value} {base : Heap}
theorem start_env {c : Ctx} {μ : List Addr} {H : Hp} {N : List Str} {vs : List V} {ds : List D} (r : RDs K c μ H vs ds) : REnv K c μ H (L2.start N vs) (Mi.start N.length ds) := by
  refine ⟨by unfold L2.start Mi.start; simp [r.length], fun i d h => ?_⟩
  unfold Mi.start at h
  unfold L2.start
  by_cases hi : i < ds.length
  · rw [List.getElem?_append_left (by simpa using hi), List.getElem?_map] at h
    cases e : ds[i]? with
    | none => rw [e] at h; cases h
    | some d' =>
      rw [e] at h
      cases h
      obtain ⟨v, h1, h2⟩ := r.get e
      refine ⟨v, ?_, h2⟩
      rw [List.getElem?_append_left (by rw [List.length_map, r.length]; exact hi), List.getElem?_map, h1]
      rfl
  · rw [List.getElem?_append_right (by simpa using Nat.le_of_not_lt hi), List.getElem?_replicate] at h
    split at h <;> cases h
/-- THE RULE for a def -/
theorem fn_ok {x qual : Str} {st : Stmt} {f : Addr} {fd : FuncData} {N ps : List Str} {k : Nat} (F : Fun K x qual st f fd) (Sc : FnScope N ps (defScope st)) {b : S}
    (hb : ∀ (cdv : Value) (A : Around) (outer : List PySem.Env) (s : Shared) (H : Hp) (E : XK) (B : Base) (W : Wish), Room k (A.deeper (envOfC qual (defScope st) s.heap.objs.size f cdv)) →
      Takes (cxOf (L2.CX P w) P w K mg base N qual (defScope st) f cdv A outer s H E) (liftW K ⟨mg, B.ρ⟩ B W) → CSs (cxOf (L2.CX P w) P w K mg base N qual (defScope st) f cdv A outer s H E) B W (defBody st) b) :
    FnOk P w K mg base (L2.CX P w) (k + 1) f fd ps (spF K mg ps.length (runB N.length b)) := by
  refine F.okX Sc (fun vs H Q E h => h.1) (fun cdv A outer s H vs Q E hr h => ?_)
  obtain ⟨hl, ρ, μ, s0, ds, R, rds, r, hrun, hq⟩ := h
  refine ⟨_, hb cdv A outer s H E ⟨μ, ρ, H⟩ (fun x _ st' => r = .ex x st') hr ?_, ?_⟩
  · refine Takes.imp (takes_of rfl rfl rfl rfl) ?_
    rintro cls d σ H' ⟨μ', st', env, x, n', xr, e⟩
    subst e
    exact hq μ' H' cls d n'.step n'.rel xr
  · have n0 : Now K ⟨mg, ρ⟩ ⟨μ, ρ, H⟩ μ s0 H (L2.start N vs) (Mi.start N.length ds) := ⟨Step.refl _ _, R, start_env rds⟩
    unfold runB at hrun
    cases e : b (Mi.start N.length ds) s0 with
    | none => rw [e] at hrun; cases hrun
    | some rb =>
      rw [e] at hrun
      refine ⟨μ, s0, _, n0, rb, e, ?_⟩
      cases rb with
      | nx env st' => cases hrun; exact fun μ' H' σ' s R' re => hq μ' H' .non s R' .non
      | rt d st' => cases hrun; exact hq
      | bk env st' => cases hrun
      | ct env st' => cases hrun
      | ex x env st' => cases hrun; rfl

/-! ### what the callee made for itself is forgotten -/
mutual
theorem RD.under {c : Ctx} {μ ν : List Addr} {H : Hp} : ∀ {v : V} {d : D}, RD K c (μ ++ ν) H v d → below μ.length d = true → RD K c μ H v d
  | _, _, .non, _ => .non
  | _, _, .bl b, _ => .bl b
  | _, _, .int i, _ => .int i
  | _, _, .str x, _ => .str x
  | _, _, .tup h r, hb => .tup h (RDs.under r (by simpa [below] using hb))
  | _, _, .lst hn hr h r, hb => .lst (fun z => hn (List.mem_append_left _ z)) hr h (RDs.under r (by simpa [below] using hb))
  | _, _, .rol h r, hb => .rol (by
      rcases h with ⟨hn, hr, h⟩ | h
      · exact .inl ⟨fun z => hn (List.mem_append_left _ z), hr, h⟩
      · exact .inr h) (RDs.under r (by simpa [below] using hb))
  | _, _, .dct h hn hr r, hb => .dct h (fun z => hn (List.mem_append_left _ z)) hr (RDk.under r (by simpa [below] using hb))
  | _, _, .loc (l := l) h, hb => .loc (by
      have hl : l < μ.length := by simpa [below] using hb
      rw [List.getElem?_append_left hl] at h
      exact h)
  | _, _, .fn h, _ => .fn h
theorem RDs.under {c : Ctx} {μ ν : List Addr} {H : Hp} : ∀ {vs : List V} {ds : List D}, RDs K c (μ ++ ν) H vs ds → belows μ.length ds = true → RDs K c μ H vs ds
  | _, _, .nil, _ => .nil
  | _, _, .cons h r, hb => by
    simp only [belows, Bool.and_eq_true] at hb
    exact .cons (RD.under h hb.1) (RDs.under r hb.2)
theorem RDk.under {c : Ctx} {μ ν : List Addr} {H : Hp} : ∀ {vs : List (Key × V)} {ds : List (Key × D)}, RDk K c (μ ++ ν) H vs ds → belowk μ.length ds = true → RDk K c μ H vs ds
  | _, _, .nil, _ => .nil
  | _, _, .cons h r, hb => by
    simp only [belowk, Bool.and_eq_true] at hb
    exact .cons (RD.under h hb.1) (RDk.under r hb.2)
end
theorem Rel.under {c : Ctx} {μ ν : List Addr} {H : Hp} {st : Store} (R : Rel K c (μ ++ ν) st H) (hb : okSt μ.length (st.take μ.length) = true) : Rel K c μ (st.take μ.length) H := by
  have hl := R.len
  rw [List.length_append] at hl
  refine ⟨by rw [List.length_take]; omega, (List.nodup_append.mp R.nd).1, R.rn, fun a ha => ⟨fun z => (R.res a ha).1 (List.mem_append_left _ z), (R.res a ha).2⟩, fun l a o h1 h2 => ?_⟩
  have hlt : l < μ.length := (List.getElem?_eq_some_iff.mp h1).1
  have ho : st[l]? = some o := by rw [List.getElem?_take_of_lt hlt] at h2; exact h2
  have q := R.obj l a o (by rw [List.getElem?_append_left hlt]; exact h1) ho
  have hbo : belowO μ.length o = true := List.all_eq_true.mp hb o (List.mem_of_getElem? h2)
  cases o with
  | lst ds => obtain ⟨vs, q1, q2⟩ := q; exact ⟨vs, q1, q2.under hbo⟩
  | ins cn fs => obtain ⟨C, dx, vs, q0, q1, q2⟩ := q; exact ⟨C, dx, vs, q0, q1, q2.under hbo⟩
theorem thaw_rd {c : Ctx} {μ ν : List Addr} {H : Hp} {st : Store} {v : V} {d : D} (R : Rel K c (μ ++ ν) st H) (r : RD K c (μ ++ ν) H v d) (hb : below μ.length (thaw μ.length st d) = true) : RD K c μ H v (thaw μ.length st d) := by
  cases d with
  | loc l =>
    simp only [thaw] at hb ⊢
    by_cases hl : l < μ.length
    · rw [if_pos hl] at hb ⊢
      exact r.under hb
    · rw [if_neg hl] at hb ⊢
      cases r with
      | @loc a _ ha =>
        split at hb
        · rename_i ds e
          obtain ⟨vs, q1, q2⟩ := R.obj _ _ _ ha e
          have ham : a ∈ μ ++ ν := List.mem_of_getElem? ha
          refine .lst (fun z => ?_) (fun z => (R.res a z).1 ham) q1 (q2.under (by simpa [below] using hb))
          rw [List.getElem?_append_right (Nat.le_of_not_lt hl)] at ha
          exact (List.nodup_append.mp R.nd).2.2 a z a (List.mem_of_getElem? ha) rfl
        · exact absurd (by simpa [below] using hb) hl
  | _ => exact r.under hb
theorem fn_scp {f : Addr} {fd : FuncData} {ps : List Str} {k n : Nat} {m : Fn} (F : FnOk P w K mg base (L2.CX P w) k f fd ps (spF K mg n m)) : FnOk P w K mg base (L2.CX P w) k f fd ps (spF K mg n fun ds => scp (m ds)) := by
  refine F.imp fun vs H Q E h => ?_
  obtain ⟨hl, ρ, μ, s0, ds, R, rds, r, hrun, hq⟩ := h
  refine ⟨hl, ρ, μ, s0, ds, R, rds, ?_⟩
  have hrun : scp (m ds) s0 = some r := hrun
  unfold scp at hrun
  cases e : m ds s0 with
  | none => rw [e] at hrun; cases hrun
  | some r1 =>
    rw [e] at hrun
    refine ⟨r1, rfl, ?_⟩
    cases r1 with
    | ok d st1 =>
      dsimp only at hrun
      split at hrun
      · rename_i hb
        cases hrun
        rw [Bool.and_eq_true] at hb
        rw [← R.len] at hb hq
        intro μ' H' v s R' rd
        obtain ⟨⟨ν, rfl, hν⟩, kp⟩ := id s
        exact hq μ H' v ⟨⟨[], (List.append_nil _).symm, fun _ h => nomatch h⟩, kp⟩ (R'.under hb.2) (thaw_rd R' rd hb.1)
      · cases hrun
    | ex x st1 =>
      dsimp only at hrun
      by_cases hb : (argBelow s0.length x && okSt s0.length (st1.take s0.length)) = true
      · rw [if_pos hb] at hrun
        cases hrun
        rw [Bool.and_eq_true] at hb
        rw [← R.len] at hb hq
        intro μ' H' cls d s R' xr
        obtain ⟨⟨ν, rfl, hν⟩, kp⟩ := id s
        refine hq μ H' cls d ⟨⟨[], (List.append_nil _).symm, fun _ h => nomatch h⟩, kp⟩ (R'.under hb.2) ?_
        obtain ⟨C, c1, c2, c3⟩ := xr
        refine ⟨C, c1, c2, ?_⟩
        cases hx : x.arg with
        | none => trivial
        | some u =>
          unfold argBelow at hb
          rw [hx] at c3 hb
          obtain ⟨a, fl, v, b1, b2, b3, b4⟩ := c3
          exact ⟨a, fl, v, b1, b2, fun z => b3 (List.mem_append_left _ z), b4.under hb.1⟩
      · rw [if_neg hb] at hrun
        cases hrun
end
end Mi

set_option Elab.async false
set_option linter.all false
set_option autoImplicit false
set_option maxRecDepth 100000
set_option maxHeartbeats 2000000
/-! Mi: all, any, sorted; the forms that the generator writes. -/
namespace Mi
open PySem PySem.Spec PyProof.Rows L2
section
variable {X : Cx} {B : Base} {W : Wish} {a b c e o : Expr} {ma mb mo mi m : E} {pos p : Pos}
def pyBools (bs : List Bool) : List PyData := bs.map .bool
theorem bools_dp {K : PySem.W.Frag} {mg : Ctx} {μ : List Addr} {H : Hp} : ∀ {vs : List V} {ds : List D} {bs : List Bool}, RDs K mg μ H vs ds → blsOf ds = some bs → DpAll K H vs (pyBools bs)
  | _, _, _, .nil, h => by cases h; exact .nil
  | _, _, _, .cons (d := d) r t, h => by
    cases d <;> simp only [blsOf] at h <;> try (cases h; done)
    split at h
    · rename_i bs e
      cases h
      cases r
      exact .cons (.bl _) (bools_dp t e)
    · cases h
theorem bools_all (bs : List Bool) : (pyBools bs).all PyData.truthy = bs.all id := by
  unfold pyBools
  rw [List.all_map]
  rfl
theorem bools_any (bs : List Bool) : (pyBools bs).any PyData.truthy = bs.any id := by
  unfold pyBools
  rw [List.any_map]
  rfl
theorem bools_plain : ∀ bs : List Bool, PyData.plainAll (pyBools bs) = true
  | [] => by simp only [pyBools, List.map_nil, PyData.plainAll]
  | b :: bs => by
    have := bools_plain bs
    simp only [pyBools, List.map_cons, PyData.plainAll, PyData.plain, Bool.true_and] at this ⊢
    exact this
theorem bools_fit (bs : List Bool) : ∀ x ∈ pyBools bs, x.fits63 := by
  intro x hx
  obtain ⟨b, _, rfl⟩ := List.mem_map.mp hx
  exact trivial
def rAllP (K : PySem.W.Frag) (any : Bool) : List V → Hp → VK → Prop := fun xs H Q => ∃ a vs bs, xs = [.ref a] ∧ SqL K H a vs ∧ DpAll K H vs (pyBools bs) ∧ Q (.bl (if any then bs.any id else bs.all id)) H
theorem call_allP (hc : X.calm = true) : CallR X (.builtin "all") (rAllP X.K false) := by
  intro pins s σ H xs us Q I r h
  obtain ⟨a, vs, bs, rfl, hs, hd, q⟩ := h
  obtain ⟨u, rfl, rx⟩ := vals1 r
  cases rx
  obtain ⟨its, rv, pl, hz⟩ := I.list hs
  obtain ⟨as, rs⟩ := Dp.readsAll I _ _ _ hd rv
  refine PySem.W.all_list_data (I.ok.hd hc) pl.isList rs (bools_plain bs) (bools_fit bs) fun h' tk k => ?_
  rw [bools_all]
  exact ⟨.bl _, H, I.kept k, rfl, q⟩
theorem call_anyP (hc : X.calm = true) : CallR X (.builtin "any") (rAllP X.K true) := by
  intro pins s σ H xs us Q I r h
  obtain ⟨a, vs, bs, rfl, hs, hd, q⟩ := h
  obtain ⟨u, rfl, rx⟩ := vals1 r
  cases rx
  obtain ⟨its, rv, pl, hz⟩ := I.list hs
  obtain ⟨as, rs⟩ := Dp.readsAll I _ _ _ hd rv
  refine PySem.W.any_list_data (I.ok.hd hc) pl.isList rs (bools_plain bs) (bools_fit bs) fun h' tk k => ?_
  rw [bools_any]
  exact ⟨.bl _, H, I.kept k, rfl, q⟩
def gAll (st : Store) (x : D) : Option D := match lstOf st x with
  | some ds => (match blsOf ds with | some bs => some (.bl (bs.all id)) | none => none)
  | none => none
def gAny (st : Store) (x : D) : Option D := match lstOf st x with
  | some ds => (match blsOf ds with | some bs => some (.bl (bs.any id)) | none => none)
  | none => none
theorem cs_all (hc : X.calm = true) : CallS X (.builtin "all") gAll := by
  refine ⟨_, call_allP hc, ?_⟩
  intro ρ μ st H v x d Q R rv h q
  unfold gAll at h
  split at h
  · rename_i ds e
    split at h
    · rename_i bs e2
      cases h
      obtain ⟨a, vs, rfl, hl, r⟩ := lst_of R rv e
      exact ⟨a, vs, bs, rfl, SqL.of hl, bools_dp r e2, q _ _ (Step.refl _ _) R (.bl _)⟩
    · cases h
  · cases h
theorem cs_any (hc : X.calm = true) : CallS X (.builtin "any") gAny := by
  refine ⟨_, call_anyP hc, ?_⟩
  intro ρ μ st H v x d Q R rv h q
  unfold gAny at h
  split at h
  · rename_i ds e
    split at h
    · rename_i bs e2
      cases h
      obtain ⟨a, vs, rfl, hl, r⟩ := lst_of R rv e
      exact ⟨a, vs, bs, rfl, SqL.of hl, bools_dp r e2, q _ _ (Step.refl _ _) R (.bl _)⟩
    · cases h
  · cases h

/-! ### sorted -/
/-- a value and its datum: what is sorted -/
def SortR (K : PySem.W.Frag) (mg : Ctx) (μ : List Addr) (H : Hp) (u : Value) (q : D × PyData) : Prop := ∃ v, RelV v u ∧ RD K mg μ H v q.1
theorem sortR_out {K : PySem.W.Frag} {mg : Ctx} {μ : List Addr} {H : Hp} : ∀ {us : List Value} {qs : List (D × PyData)}, PySem.W.EachIs (SortR K mg μ H) us qs → ∃ vs, Vals vs us ∧ RDs K mg μ H vs (qs.map (·.1))
  | _, _, .nil => ⟨[], .nil, .nil⟩
  | _, _, .cons ⟨v, h1, h2⟩ t => by
    obtain ⟨vs, q1, q2⟩ := sortR_out t
    exact ⟨v :: vs, .cons h1 q1, .cons h2 q2⟩
theorem sort_src {K : PySem.W.Frag} {mg : Ctx} {μ : List Addr} {H : Hp} {pins : List (Addr × Obj)} {s : Shared} {σ : L2.St} (hK : K = X.K) (I : Inv X pins σ H s) : ∀ {vs : List V} {us : List Value} {ds : List D} {ps : List PyData}, RDs K mg μ H vs ds → Vals vs us → DpAll K H vs ps →
    PySem.W.EachIs (SortR K mg μ H) us (ds.zip ps) ∧ PySem.W.EachIs (fun v b => ∃ as, Reads s.heap v b.2 as) us (ds.zip ps)
  | _, _, _, _, .nil, .nil, .nil => ⟨.nil, .nil⟩
  | _, _, _, _, .cons r t, .cons v w, .cons d e => by
    subst hK
    obtain ⟨h1, h2⟩ := sort_src rfl I t w e
    exact ⟨.cons ⟨_, v, r⟩ h1, .cons (Dp.reads I _ _ _ d v) h2⟩
theorem zip_snd : ∀ {ds : List D} {ps : List PyData}, ds.length = ps.length → (ds.zip ps).map (·.2) = ps
  | [], [], _ => rfl
  | [], _ :: _, h => by simp at h
  | _ :: _, [], h => by simp at h
  | d :: ds, p :: ps, h => by
    rw [List.zip_cons_cons, List.map_cons, zip_snd (by simpa using h)]
theorem dpAll_len {K : PySem.W.Frag} {H : Hp} : ∀ {vs : List V} {ps : List PyData}, DpAll K H vs ps → vs.length = ps.length
  | _, _, .nil => rfl
  | _, _, .cons _ t => by rw [List.length_cons, List.length_cons, dpAll_len t]
def rSortP (K : PySem.W.Frag) : List V → Hp → VK → Prop := fun xs H Q => ∃ (mg : Ctx) (μ : List Addr) (st : Store) (a : Addr) (vs : List V) (ds : List D) (ps : List PyData), xs = [.ref a] ∧ Rel K mg μ st H ∧ SqL K H a vs ∧ RDs K mg μ H vs ds ∧ DpAll K H vs ps ∧ alikeB ps = true ∧ (ps.all isTup1 = true ∨ ps.all noTup = true) ∧ ps.length ≤ 16777216 ∧ (∀ q ∈ ps, q.depth ≤ 64) ∧
  ∀ p ws, H p = none → RDs K mg μ H ws (((ds.zip ps).mergeSort (PySem.W.dataLe false (·.2))).map (·.1)) → Q (.ref p) (upd H p (.lst ws))
theorem call_sortP (hu : X.A.units + 90 < cLine) : CallR X (.builtin "sorted") (rSortP X.K) := by
  intro pins s σ H xs us Q I r h
  obtain ⟨mg, μ, st, a, vs, ds, ps, rfl, R, hs, rds, dps, hal, hso, hlen, hdp, q⟩ := h
  obtain ⟨u, rfl, rx⟩ := vals1 r
  cases rx
  obtain ⟨its, rv, hl, hz⟩ := I.list hs
  obtain ⟨e1, e2⟩ := sort_src rfl I rds rv dps
  have hlz : ds.length = ps.length := by rw [← rds.length, dpAll_len dps]
  have hzl : (ds.zip ps).length = ps.length := by rw [List.length_zip, hlz, Nat.min_self]
  have hmap := zip_snd hlz
  refine PySem.W.sorted_data (enc := (·.2)) (bs := ds.zip ps) hl.isList e1 e2 ?_ ?_ (by rw [hzl, sizeLine_eq]; exact hlen) (fun b hb => ?_) fun out ho eo => ?_
  · rw [hmap]
    intro d hd d' hd'
    exact List.all_eq_true.mp (List.all_eq_true.mp hal d hd) d' hd'
  · rw [hmap]
    rcases hso with h | h
    · refine .inl fun d hd => ?_
      have := List.all_eq_true.mp h d hd
      unfold isTup1 at this
      split at this
      · exact ⟨_, _, rfl⟩
      · cases this
    · refine .inr fun d hd => ?_
      have := List.all_eq_true.mp h d hd
      unfold noTup at this
      split at this
      · cases this
      · cases this
      · rename_i h1 h2
        exact ⟨h2, fun xs z => h1 xs z⟩
  · have : b.2 ∈ ps := by rw [← hmap]; exact List.mem_map.mpr ⟨b, hb, rfl⟩
    have := hdp _ this
    omega
  · obtain ⟨ws, w1, w2⟩ := sortR_out eo
    obtain ⟨ep, he'⟩ := PyProof.Rows.sortedAll_at s.heap its out.toArray
    have hlw : ws.length ≤ sizeLine := by
      rw [w1.length, ho, hzl, sizeLine_eq]; exact hlen
    exact ⟨.ref _, upd H (s.heap.objs.size + 1) (.lst ws), I.laid (t' := s.toks) (fun _ _ => PyProof.Rows.sortedAll_old) (Nat.le_succ _) ⟨hlw, out, ep, w1, he'⟩, rfl, q _ ws (I.hok.fresh (Nat.le_succ _)) w2⟩
theorem cl_sorted (hu : X.A.units + 90 < cLine) (hg : Gl X "sorted") (hm : X.mg "sorted" = none) (ha : CE X B W a ma) (he : starEach (a :: []) X.env = (false, eval a X.env) :: starEach [] X.env := by rfl) (hpl : (backTo pos (starEach [] X.env)).any (·.1) = false := by rfl) :
    CL X B W (.Call (.Name "sorted" p) [a] [] pos) (lSorted ma) := by
  refine PE.imp (pe_callB (call_sortP hu) hg hm boot_sorted (pa_cons ha pa_nil he) (by decide) (by decide) he hpl) ?_
  rintro σ H Q ⟨μ, st, env, n, r, h, hq⟩
  refine first n h (resL_ex hq) fun d st1 μ1 H1 v h1 s1 n1 r1 => ?_
  obtain ⟨es, e2, rfl⟩ := look_inv h1
  split at e2
  · rename_i ds e3
    obtain ⟨a, vs, rfl, hl, rds⟩ := lst_of n1.rel r1 e3
    unfold sortD at e2
    split at e2
    · rename_i ps e4
      split at e2
      · rename_i hc
        cases e2
        simp only [Bool.and_eq_true, Bool.or_eq_true] at hc
        refine ⟨⟨X.mg, B.ρ⟩, μ1, st1, a, vs, ds, ps, rfl, n1.rel, SqL.of hl, rds, dps_of n1.rel rds e4, hc.1.1.1, hc.1.1.2, of_decide_eq_true hc.1.2, fun q hq => of_decide_eq_true (List.all_eq_true.mp hc.2 q hq), fun p ws hp rw' => ?_⟩
        obtain ⟨a1, a2, a3, a4, a5⟩ := laid_list n.rel s1 n1.rel rw' hp
        exact hq _ _ _ _ a1 a2 a3 a4 a5
      · cases e2
    · cases e2
  · cases e2
end

/-! ### the forms that the generator writes -/
section
variable {X : Cx} {B : Base} {W : Wish} {a b c e o : Expr} {ma mb mo mi m : E} {pos p p2 : Pos}
theorem cv (i : Nat) {x : Str} {pos : Pos} (hN : X.N[i]? = some x := by rfl) (hv : Vis X.env.scope x := by first | exact Or.inl rfl | exact Or.inr (Or.inl rfl) | exact Or.inr (Or.inr rfl)) (hd : (x == ("__debug__" : Str)) = false := by decide)
    (hcd : (x == ("__classdict__" : Str)) = false := by decide) : CE X B W (.Name x pos) (eVar i) := ce_var hN hv hd hcd
/-- a def of the text, by what it does -/
def OkF (P : Program) (w : World) (K : PySem.W.Frag) (mg : Str → Option Value) (base : Heap) (k : Nat) (x : Str) (ps : List Str) (sem : Fn) : Prop :=
  ∃ f fd, FnOk P w K mg base (L2.CX P w) k f fd ps (spF K mg ps.length sem) ∧ mg x = some (.ref f) ∧ PySem.W.keepIn K (.ref f) = true ∧ Binds K fd ps []
theorem cc {x : Str} {ps : List Str} {k : Nat} {sem : Fn} {ma : EL} {e : Expr} {es : List Expr} (F : OkF X.prog X.w X.K X.mg X.base k x ps sem) (hr : Room k X.A) (tk : Takes X (liftW X.K ⟨X.mg, B.ρ⟩ B W)) (ha : CA X B W (e :: es) ma)
    (hg : Gl X x := by rfl) (hn : (e :: es).length = ps.length := by rfl) (hln : ∀ env st ds st', ma env st = some (.ok ds st') → ds.length = ps.length := by first | exact eCons_len eNil_len | exact eCons_len (eCons_len eNil_len) | exact eCons_len (eCons_len (eCons_len eNil_len)) | exact eCons_len (eCons_len (eCons_len (eCons_len eNil_len))) | exact eCons_len (eCons_len (eCons_len (eCons_len (eCons_len eNil_len))))) (hdb : (x == ("__debug__" : Str)) = false := by decide)
    (he : starEach (e :: es) X.env = (false, eval e X.env) :: starEach es X.env := by rfl) (hpl : (backTo pos (starEach es X.env)).any (·.1) = false := by rfl) : CE X B W (.Call (.Name x p) (e :: es) [] pos) (eCall sem ma) := by
  obtain ⟨f, fd, h1, h2, h3, h4⟩ := F
  exact ce_call h1 hr hg h2 h3 h4 tk ha hn hln hdb he hpl
/-- where a def stands in the text -/
def At (K : PySem.W.Frag) (mg : Str → Option Value) (x : Str) (ps : List Str) (st : Stmt) : Prop := ∃ f fd, Fun K x x st f fd ∧ mg x = some (.ref f) ∧ Binds K fd ps []
section
variable {P : Program} {w : World} {K : PySem.W.Frag} {mg : Str → Option Value} {base : Heap}
theorem okf {x : Str} {st : Stmt} {N ps : List Str} {k : Nat} (T : At K mg x ps st) (Sc : FnScope N ps (defScope st)) {b : S}
    (hb : ∀ (f : Addr) (cdv : Value) (A : Around) (outer : List PySem.Env) (s : Shared) (H : Hp) (E : XK) (B : Base) (W : Wish), Room k (A.deeper (envOfC x (defScope st) s.heap.objs.size f cdv)) →
      Takes (cxOf (L2.CX P w) P w K mg base N x (defScope st) f cdv A outer s H E) (liftW K ⟨mg, B.ρ⟩ B W) → CSs (cxOf (L2.CX P w) P w K mg base N x (defScope st) f cdv A outer s H E) B W (defBody st) b) :
    OkF P w K mg base (k + 1) x ps fun ds => scp (runB N.length b ds) := by
  obtain ⟨f, fd, h1, h2, h3⟩ := T
  exact ⟨f, fd, fn_scp (fn_ok h1 Sc (hb f)), h2, h1.kp, h3⟩
theorem okr {x : Str} {st : Stmt} {N ps : List Str} {k : Nat} (T : At K mg x ps st) (Sc : FnScope N ps (defScope st)) {b : S}
    (hb : ∀ (f : Addr) (cdv : Value) (A : Around) (outer : List PySem.Env) (s : Shared) (H : Hp) (E : XK) (B : Base) (W : Wish), Room k (A.deeper (envOfC x (defScope st) s.heap.objs.size f cdv)) →
      Takes (cxOf (L2.CX P w) P w K mg base N x (defScope st) f cdv A outer s H E) (liftW K ⟨mg, B.ρ⟩ B W) → CSs (cxOf (L2.CX P w) P w K mg base N x (defScope st) f cdv A outer s H E) B W (defBody st) b) :
    OkF P w K mg base (k + 1) x ps (runB N.length b) := by
  obtain ⟨f, fd, h1, h2, h3⟩ := T
  exact ⟨f, fd, fn_ok h1 Sc (hb f), h2, h1.kp, h3⟩
theorem ok_stuck {x : Str} {st : Stmt} {ps : List Str} {k : Nat} (T : At K mg x ps st) : OkF P w K mg base k x ps fun _ => stuck := by
  obtain ⟨f, fd, h1, h2, h3⟩ := T
  exact ⟨f, fd, ⟨fun vs H Q E h => h.1, fun A outer s H args us vs Q E hr e0 hb hv hs => by
    obtain ⟨_, _, _, _, _, _, _, r, h, _⟩ := hs
    cases h⟩, h2, h1.kp, h3⟩
theorem OkF.up {x : Str} {ps : List Str} {k j : Nat} {sem : Fn} (h : OkF P w K mg base k x ps sem) (hk : k ≤ j) : OkF P w K mg base j x ps sem := by
  obtain ⟨f, fd, h1, h2, h3⟩ := h
  exact ⟨f, fd, h1.mono hk, h2, h3⟩
theorem at_mk {x : Str} {ps : List Str} {st : Stmt} {f : Addr} {oc : Value} {od an : Option Addr} {osl : Array (Option Value)} {kV doc pm cdv ct : Value} {h : Heap} (X : K.In h) (G : h.Ns mainGlobals mg)
    (a : PySem.W.nsIn K mainGlobals x = some (some (.ref f))) (l : K.lookup f = some ⟨oc, od, .func (PySem.W.fnOf x x (defArgs st) (defBody st) (defScope st) .none kV doc pm an cdv ct), osl⟩)
    (c : PySem.W.codeIn K cdv x = true) (k : PySem.W.keepIn K (.ref f) = true)
    (hb : ∀ (kV doc pm : Value) (an : Option Addr) (cdv ct : Value) (us : List Value), us.length = ps.length → bindArgs (PySem.W.fnOf x x (defArgs st) (defBody st) (defScope st) .none kV doc pm an cdv ct) ⟨us, []⟩ = pure (ps.zip us)) : At K mg x ps st := by
  have F := fun_mk (st := st) l c k
  exact ⟨f, _, F, PySem.W.mg_of X G a, F.binds hb⟩
end
theorem hu90 {A : Around} {k : Nat} (hr : Room k A) : A.units + 90 < cLine := by have := hr.un; omega
theorem takes0' {X : Cx} {B : Base} (hx : X.xe = fun _ _ => False := by rfl) : Takes X (liftW X.K ⟨X.mg, B.ρ⟩ B WF) := takes_wf (fun e s => by rw [hx])
end
end Mi

set_option Elab.async false
set_option linter.all false
set_option autoImplicit false
set_option maxRecDepth 100000
namespace Mi
open PySem PySem.Spec PyProof.Rows L2
def spLaw (K : PySem.W.Frag) : Sp := fun vs H Q _ => ∃ (a : Addr) (ns : List Int), vs = [.ref a] ∧ SqL K H a (ns.map V.int) ∧ ∀ H', Q (.bl true) H'
theorem rds_ints {K : PySem.W.Frag} {mg : Ctx} {μ : List Addr} {H : Hp} : ∀ ns : List Int, RDs K mg μ H (ns.map V.int) (ns.map D.int)
  | [] => .nil
  | n :: ns => .cons (.int n) (rds_ints ns)
theorem law_imp {P : Program} {w : World} {K : PySem.W.Frag} {mg : Str → Option Value} {base : Heap} {k : Nat} {f : Addr} {fd : FuncData} {ps : List Str} {m : Fn} (hm : ∀ ns : List Int, m [.rol (ns.map .int)] [] = some (.ok (.bl true) []))
    (F : FnOk P w K mg base (L2.CX P w) k f fd ps (spF K mg 1 m)) : FnOk P w K mg base (L2.CX P w) k f fd ps (spLaw K) := by
  refine F.imp fun vs H Q E h => ?_
  obtain ⟨a, ns, rfl, hS, q⟩ := h
  refine ⟨rfl, [], [], [], [.rol (ns.map .int)], ⟨rfl, .nil, .nil, (fun _ h => nomatch h), (fun l a o h _ => nomatch h)⟩, .cons (.rol ?_ (rds_ints ns)) .nil, _, hm ns, fun μ' H' v _ _ r => ?_⟩
  · rcases hS with h | h
    · exact .inl ⟨(fun z => nomatch z), (fun z => nomatch z), h⟩
    · exact .inr h
  · cases r
    exact q H'
theorem okl {P : Program} {w : World} {K : PySem.W.Frag} {mg : Str → Option Value} {base : Heap} {x : Str} {st : Stmt} {N ps : List Str} {k : Nat} {fa : Addr} {fd : FuncData} (h1 : Fun K x x st fa fd) (Sc : FnScope N ps (defScope st)) {b : S}
    (hb : ∀ (f : Addr) (cdv : Value) (A : Around) (outer : List PySem.Env) (s : Shared) (H : Hp) (E : XK) (B : Base) (W : Wish), Room k (A.deeper (envOfC x (defScope st) s.heap.objs.size f cdv)) →
      Takes (cxOf (L2.CX P w) P w K mg base N x (defScope st) f cdv A outer s H E) (liftW K ⟨mg, B.ρ⟩ B W) → CSs (cxOf (L2.CX P w) P w K mg base N x (defScope st) f cdv A outer s H E) B W (defBody st) b) :
    FnOk P w K mg base (L2.CX P w) (k + 1) fa fd ps (spF K mg ps.length fun ds => scp (runB N.length b ds)) := fn_scp (fn_ok h1 Sc (hb fa))
theorem cx_false {P : Program} {w : World} {H : Hp} {s : Shared} {e : Value} {s' : Shared} (h : L2.CX P w [] H s (fun _ _ _ => False) e s') : False := by
  obtain ⟨_, _, _, h⟩ := h
  simp_all
end Mi

set_option Elab.async false
set_option linter.all false
set_option autoImplicit false
set_option maxRecDepth 100000
namespace K45
open PySem Mi
/-- turns of a while at most -/
abbrev fuel : Nat := 24
-- slots of is_integer: 0 thing
def b_is_integer : S :=
  (sRet (eAnd (eIsi "int" (eVar 0)) (eB (tNot (tE (eIsi "bool" (eVar 0)))))))
def f_is_integer : Fn := fun ds => scp (runB 1 b_is_integer ds)
-- slots of is_between: 0 thing, 1 least, 2 most
def b_is_between : S :=
  (sRet (eAnd (eCall f_is_integer (eCons (eVar 0) eNil)) (eB (tChain dLe dLe (eVar 1) (eVar 0) (eVar 2)))))
def f_is_between : Fn := fun ds => scp (runB 3 b_is_between ds)
-- slots of is_index: 0 thing, 1 many
def b_is_index : S :=
  (sRet (eCall f_is_between (eCons (eVar 0) (eCons (eC (.int 0)) (eCons (eBin oSub (eVar 1) (eC (.int 1))) eNil)))))
def f_is_index : Fn := fun ds => scp (runB 2 b_is_index ds)
-- check_number line 17: raise
-- slots of check_number: 0 thing, 1 least, 2 most
def b_check_number : S :=
  (sIf (tNot (tE (eCall f_is_between (eCons (eVar 0) (eCons (eVar 1) (eCons (eVar 2) eNil)))))) sNever sSkip)
def f_check_number : Fn := fun ds => scp (runB 3 b_check_number ds)
-- slots of are_ascending: 0 things, 1 one, 2 other
def b_are_ascending : S :=
  (sRet (eU' gAll (eL (lComp (iZip (eVar 0) (eSl (eVar 0) (pAt (eC (.int 1))) pNo)) (gSet2 1 2) tYes (eB (tCmp dLt (eVar 1) (eVar 2))) [1, 2]))))
def f_are_ascending : Fn := fun ds => scp (runB 3 b_are_ascending ds)
-- slots of is_pocket: 0 thing, 1 person, 2 many, 3 other
def b_is_pocket : S :=
  (sSeq (sIf (tOr (tNot (tE (eIsi "tuple" (eVar 0)))) (tNot (tE (eU' gAll (eL (lComp (iOf (eVar 0)) (gVar 3) tYes (eCall f_is_index (eCons (eVar 3) (eCons (eVar 2) eNil))) [3])))))) (sRet (eC (.bl false))) sSkip)
      (sRet (eAnd (eCall f_are_ascending (eCons (eVar 0) eNil)) (eB (tCmp dNotIn (eVar 1) (eVar 0))))))
def f_is_pocket : Fn := fun ds => scp (runB 4 b_is_pocket ds)
-- slots of is_web: 0 thing, 1 person, 2 pocket
def b_is_web : S :=
  (sSeq (sIf (tOr (tNot (tE (eIsi "tuple" (eVar 0)))) (tNot (tChain dLe dLe (eC (.int 1)) (eU' gLen (eVar 0)) (eC (.int 9))))) (sRet (eC (.bl false))) sSkip)
      (sRet (eU' gAll (eL (lComp (iEnum (eVar 0)) (gSet2 1 2) tYes (eCall f_is_pocket (eCons (eVar 2) (eCons (eVar 1) (eCons (eU' gLen (eVar 0)) eNil)))) [1, 2])))))
def f_is_web : Fn := fun ds => scp (runB 3 b_is_web ds)
-- check_web line 32: raise
-- slots of check_web: 0 thing
def b_check_web : S :=
  (sIf (tNot (tE (eCall f_is_web (eCons (eVar 0) eNil)))) sNever sSkip)
def f_check_web : Fn := fun ds => scp (runB 1 b_check_web ds)
-- slots of found_from: 0 web, 1 person, 2 found, 3 at, 4 other
def b_found_from : S :=
  (sSeq (sSet 2 (eNew (lDisp (eCons (eVar 1) eNil))))
      (sSeq (sSet 3 (eC (.int 0)))
      (sSeq (sWhile fuel (tCmp dLt (eVar 3) (eU' gLen (eVar 2))) (sSeq (sExt (eVar 2) (eL (lComp (iOf (eIx (eVar 0) (eIx (eVar 2) (eVar 3)))) (gVar 4) (tCmp dNotIn (eVar 4) (eVar 2)) (eVar 4) [4])))
      (sAug 3 oAddI (eC (.int 1)))))
      (sRet (eVar 2)))))
def f_found_from : Fn := fun ds => scp (runB 5 b_found_from ds)
-- slots of raw_finds: 0 web, 1 person
def b_raw_finds : S :=
  (sRet (eU' Mi.gTup (eL (lComp (iRange (eU' gLen (eVar 0))) (gVar 1) tYes (eU' Mi.gTup (eL (lSorted (eCall f_found_from (eCons (eVar 0) (eCons (eVar 1) eNil)))))) [1]))))
def f_raw_finds : Fn := fun ds => scp (runB 2 b_raw_finds ds)
-- slots of lots_up_to: 0 many, 1 most, 2 found, 3 longest, 4 size, 5 longer, 6 lot, 7 begin, 8 person
def b_lots_up_to : S :=
  (sSeq (sSet 2 (eNew (lDisp (eCons (eTup eNil) eNil))))
      (sSeq (sSet 3 (eL (lDisp (eCons (eTup eNil) eNil))))
      (sSeq (sFor (iRange (eBin oMin (eVar 0) (eVar 1))) (gVar 4) (sSeq (sSet 5 (eNew (lDisp eNil)))
      (sSeq (sFor (iOf (eVar 3)) (gVar 6) (sSeq (sSet 7 (eIf (tCmp dGt (eU' gLen (eVar 6)) (eC (.int 0))) (eBin oAdd (eIx (eVar 6) (eNeg (eC (.int 1)))) (eC (.int 1))) (eC (.int 0))))
      (sExt (eVar 5) (eL (lComp (iRange2 (eVar 7) (eVar 0)) (gVar 8) tYes (eBin oAdd (eVar 6) (eTup (eCons (eVar 8) eNil))) [8])))))
      (sSeq (sExt (eVar 2) (eVar 5))
      (sSet 3 (eVar 5))))))
      (sRet (eVar 2)))))
def f_lots_up_to : Fn := fun ds => scp (runB 9 b_lots_up_to ds)
-- slots of without_people: 0 web, 1 lot, 2 kept, 3 other, 4 pocket, 5 person
def b_without_people : S :=
  (sSeq (sSet 2 (eL (lComp (iOf (eVar 0)) (gVar 4) tYes (eU' Mi.gTup (eL (lComp (iOf (eVar 4)) (gVar 3) (tCmp dNotIn (eVar 3) (eVar 1)) (eVar 3) [3]))) [4])))
      (sRet (eU' Mi.gTup (eL (lComp (iEnum (eVar 2)) (gSet2 5 4) tYes (eIf (tCmp dIn (eVar 5) (eVar 1)) (eTup eNil) (eVar 4)) [4, 5])))))
def f_without_people : Fn := fun ds => scp (runB 6 b_without_people ds)
-- slots of hangs_together: 0 web, 1 lot, 2 left, 3 lots, 4 person
def b_hangs_together : S :=
  (sSeq (sSet 2 (eU' Mi.gTup (eL (lComp (iRange (eU' gLen (eVar 0))) (gVar 4) (tCmp dNotIn (eVar 4) (eVar 1)) (eVar 4) [4]))))
      (sSeq (sSet 3 (eCall f_raw_finds (eCons (eCall f_without_people (eCons (eVar 0) (eCons (eVar 1) eNil))) eNil)))
      (sRet (eU' gAll (eL (lComp (iOf (eVar 2)) (gVar 4) tYes (eB (tCmp dEq (eIx (eVar 3) (eVar 4)) (eVar 2))) [4]))))))
def f_hangs_together : Fn := fun ds => scp (runB 5 b_hangs_together ds)
-- slots of first_weak: 0 web, 1 most, 2 lot
def b_first_weak : S :=
  (sSeq (sFor (iOf (eCall f_lots_up_to (eCons (eU' gLen (eVar 0)) (eCons (eVar 1) eNil)))) (gVar 2) (sIf (tNot (tE (eCall f_hangs_together (eCons (eVar 0) (eCons (eVar 2) eNil))))) (sRet (eVar 2)) sSkip))
      (sRet (eC .non)))
def f_first_weak : Fn := fun ds => scp (runB 3 b_first_weak ds)
-- slots of check_asked: 0 web, 1 k
def b_check_asked : S :=
  (sSeq (sExpr (eCall f_check_web (eCons (eVar 0) eNil)))
      (sExpr (eCall f_check_number (eCons (eVar 1) (eCons (eC (.int 0)) (eCons (eC (.int 9)) eNil))))))
def f_check_asked : Fn := fun ds => scp (runB 2 b_check_asked ds)
-- slots of firm: 0 web, 1 k
def b_firm : S :=
  (sSeq (sExpr (eCall f_check_asked (eCons (eVar 0) (eCons (eVar 1) eNil))))
      (sRet (eB (tCmp dIsN' (eCall f_first_weak (eCons (eVar 0) (eCons (eVar 1) eNil))) (eC .non)))))
def f_firm : Fn := fun ds => scp (runB 2 b_firm ds)
-- slots of weak: 0 web, 1 k
def b_weak : S :=
  (sSeq (sExpr (eCall f_check_asked (eCons (eVar 0) (eCons (eVar 1) eNil))))
      (sRet (eCall f_first_weak (eCons (eVar 0) (eCons (eVar 1) eNil)))))
def f_weak : Fn := fun ds => scp (runB 2 b_weak ds)
-- slots of greatest_firm: 0 web, 1 lot
def b_greatest_firm : S :=
  (sSeq (sExpr (eCall f_check_web (eCons (eVar 0) eNil)))
      (sSeq (sSet 1 (eCall f_first_weak (eCons (eVar 0) (eCons (eU' gLen (eVar 0)) eNil))))
      (sRet (eIf (tCmp dIsN' (eVar 1) (eC .non)) (eU' gLen (eVar 0)) (eBin oSub (eU' gLen (eVar 1)) (eC (.int 1)))))))
def f_greatest_firm : Fn := fun ds => scp (runB 2 b_greatest_firm ds)
-- slots of _law_hand: 0 script, 1 cells, 2 cell
def b__law_hand : S :=
  (sSeq (sSet 1 (eL (lComp (iOf (eSl (eVar 0) pNo (pAt (eC (.int 63))))) (gVar 2) tYes (eU' (gU uAbs) (eU' (gU uInt) (eVar 2))) [2])))
      (sRet (eNew (lDisp (eCons (eVar 1) (eCons (eC (.int 0)) (eCons (eC (.int 0)) (eCons (eBin oAdd (eC (.int 1)) (eU' gLen (eVar 1))) (eCons (eC (.int 0)) eNil)))))))))
def f__law_hand : Fn := runB 3 b__law_hand
-- slots of _law_draw: 0 hand, 1 many, 2 cell, 3 digit, 4 number
def b__law_draw : S :=
  (sSeq (sIf (tAnd (tCmp dEq (eIx (eVar 0) (eC (.int 2))) (eC (.int 0))) (tCmp dLt (eIx (eVar 0) (eC (.int 1))) (eU' gLen (eIx (eVar 0) (eC (.int 0)))))) (sSeq (sSet 2 (eIx (eIx (eVar 0) (eC (.int 0))) (eIx (eVar 0) (eC (.int 1)))))
      (sSeq (sPut (eVar 0) (eC (.int 1)) (eBin oAdd (eIx (eVar 0) (eC (.int 1))) (eC (.int 1))))
      (sSeq (sPut (eVar 0) (eC (.int 3)) (eBin oMod (eU' (gU uInt) (eBin oAdd (eBin oAdd (eBin oMul (eIx (eVar 0) (eC (.int 3))) (eC (.int 69621))) (eVar 2)) (eC (.int 11)))) (eC (.int 2147483629))))
      (sIf (tCmp dGe (eVar 2) (eBin oPow (eC (.int 10)) (eC (.int 18)))) (sPut (eVar 0) (eC (.int 2)) (eVar 2)) sSkip)))) sSkip)
      (sSeq (sIf (tCmp dGt (eIx (eVar 0) (eC (.int 2))) (eC (.int 0))) (sSeq (sSet 3 (eBin oMod (eU' (gU uInt) (eIx (eVar 0) (eC (.int 2)))) (eVar 1)))
      (sSeq (sPut (eVar 0) (eC (.int 2)) (eBin oDiv (eIx (eVar 0) (eC (.int 2))) (eVar 1)))
      (sRet (eVar 3)))) sSkip)
      (sSeq (sPut (eVar 0) (eC (.int 4)) (eBin oAdd (eIx (eVar 0) (eC (.int 4))) (eC (.int 1))))
      (sSeq (sSet 4 (eBin oMod (eU' (gU uInt) (eBin oMul (eU' (gU uInt) (eBin oAdd (eIx (eVar 0) (eC (.int 3))) (eBin oMul (eC (.int 7919)) (eIx (eVar 0) (eC (.int 4)))))) (eC (.int 48271)))) (eC (.int 2147483647))))
      (sSeq (sSet 4 (eBin oMod (eU' (gU uInt) (eBin oMul (eVar 4) (eBin oAdd (eBin oDiv (eVar 4) (eC (.int 1009))) (eC (.int 69621))))) (eC (.int 2147483647))))
      (sSeq (sSet 4 (eBin oMod (eU' (gU uInt) (eBin oMul (eVar 4) (eBin oAdd (eBin oDiv (eVar 4) (eC (.int 2003))) (eC (.int 40692))))) (eC (.int 2147483399))))
      (sRet (eBin oMod (eU' (gU uInt) (eBin oDiv (eVar 4) (eC (.int 16)))) (eVar 1)))))))))
def f__law_draw : Fn := fun ds => scp (runB 5 b__law_draw ds)
-- slots of _law_some: 0 hand, 1 things
def b__law_some : S :=
  (sRet (eIx (eVar 1) (eCall f__law_draw (eCons (eVar 0) (eCons (eU' gLen (eVar 1)) eNil)))))
def f__law_some : Fn := fun ds => scp (runB 2 b__law_some ds)
-- slots of _law_is: 0 told, 1 due, 2 k, 3 key
def b__law_is (R : Fn) : S :=
  (sSeq (sIf (tE (eIsi2 "tuple" "list" (eVar 1))) (sSeq (sIf (tOr (tCmp dNe (eIsi "tuple" (eVar 0)) (eIsi "tuple" (eVar 1))) (tCmp dNe (eIsi "list" (eVar 0)) (eIsi "list" (eVar 1)))) (sRet (eC (.bl false))) sSkip)
      (sRet (eAnd (eB (tCmp dEq (eU' gLen (eVar 0)) (eU' gLen (eVar 1)))) (eU' gAll (eL (lComp (iRange (eU' gLen (eVar 1))) (gVar 2) tYes (eCall R (eCons (eIx (eVar 0) (eVar 2)) (eCons (eIx (eVar 1) (eVar 2)) eNil))) [2])))))) sSkip)
      (sSeq (sIf (tE (eIsi "dict" (eVar 1))) (sRet (eAnd (eIsi "dict" (eVar 0)) (eAnd (eB (tCmp dEq (eVar 0) (eVar 1))) (eU' gAll (eL (lComp (iOf (eVar 1)) (gVar 3) tYes (eCall R (eCons (eIx (eVar 0) (eVar 3)) (eCons (eIx (eVar 1) (eVar 3)) eNil))) [3])))))) sSkip)
      (sRet (eAnd (eB (tCmp dEq (eIsi "bool" (eVar 0)) (eIsi "bool" (eVar 1)))) (eB (tCmp dEq (eVar 0) (eVar 1)))))))
def f__law_is : Nat → Fn
  | 0 => fun _ => stuck
  | n + 1 => fun ds => scp (runB 4 (b__law_is (f__law_is n)) ds)
-- slots of _law_flag: 0 told, 1 due
def b__law_flag : S :=
  (sRet (eAnd (eIsi "bool" (eVar 0)) (eB (tCmp dEq (eVar 0) (eVar 1)))))
def f__law_flag : Fn := fun ds => scp (runB 2 b__law_flag ds)
-- slots of _law_web: 0 hand, 1 many, 2 share, 3 found, 4 person, 5 other
def b__law_web : S :=
  (sSeq (sSet 3 (eNew (lDisp eNil)))
      (sSeq (sFor (iRange (eVar 1)) (gVar 4) (sApp (eVar 3) (eU' Mi.gTup (eL (lComp (iRange (eVar 1)) (gVar 5) (tAnd (tCmp dNe (eVar 5) (eVar 4)) (tCmp dLt (eCall f__law_draw (eCons (eVar 0) (eCons (eC (.int 12)) eNil))) (eVar 2))) (eVar 5) [5])))))
      (sRet (eU' Mi.gTup (eVar 3)))))
def f__law_web : Fn := fun ds => scp (runB 6 b__law_web ds)
-- slots of _law_drawn_web: 0 hand, 1 most, 2 many
def b__law_drawn_web : S :=
  (sSeq (sSet 2 (eBin oAdd (eC (.int 1)) (eCall f__law_draw (eCons (eVar 0) (eCons (eVar 1) eNil)))))
      (sRet (eCall f__law_web (eCons (eVar 0) (eCons (eVar 2) (eCons (eCall f__law_some (eCons (eVar 0) (eCons (eL (lDisp (eCons (eC (.int 2)) (eCons (eC (.int 4)) (eCons (eC (.int 6)) (eCons (eC (.int 8)) (eCons (eC (.int 10)) (eCons (eC (.int 11)) (eCons (eC (.int 11)) (eCons (eC (.int 12)) eNil)))))))))) eNil))) eNil))))))
def f__law_drawn_web : Fn := fun ds => scp (runB 3 b__law_drawn_web ds)
-- slots of _law_reached: 0 web, 1 gone, 2 person, 3 found, 4 at, 5 other
def b__law_reached : S :=
  (sSeq (sSet 3 (eNew (lDisp (eCons (eVar 2) eNil))))
      (sSeq (sSet 4 (eC (.int 0)))
      (sSeq (sWhile fuel (tCmp dLt (eVar 4) (eU' gLen (eVar 3))) (sSeq (sExt (eVar 3) (eL (lComp (iOf (eIx (eVar 0) (eIx (eVar 3) (eVar 4)))) (gVar 5) (tCmp dNotIn (eVar 5) (eBin oAdd (eVar 1) (eU' Mi.gTup (eVar 3)))) (eVar 5) [5])))
      (sSet 4 (eBin oAdd (eVar 4) (eC (.int 1))))))
      (sRet (eVar 3)))))
def f__law_reached : Fn := fun ds => scp (runB 6 b__law_reached ds)
-- slots of _law_holds: 0 web, 1 gone, 2 left, 3 person
def b__law_holds : S :=
  (sSeq (sSet 2 (eL (lComp (iRange (eU' gLen (eVar 0))) (gVar 3) (tCmp dNotIn (eVar 3) (eVar 1)) (eVar 3) [3])))
      (sRet (eU' gAll (eL (lComp (iOf (eVar 2)) (gVar 3) tYes (eB (tCmp dEq (eU' gLen (eCall f__law_reached (eCons (eVar 0) (eCons (eVar 1) (eCons (eVar 3) eNil))))) (eU' gLen (eVar 2)))) [3])))))
def f__law_holds : Fn := fun ds => scp (runB 4 b__law_holds ds)
-- slots of _law_lots: 0 many, 1 found, 2 person, 3 lot, 4 pair
def b__law_lots : S :=
  (sSeq (sSet 1 (eL (lDisp (eCons (eTup eNil) eNil))))
      (sSeq (sFor (iRange (eVar 0)) (gVar 2) (sSet 1 (eL (lAdd (eVar 1) (eL (lComp (iOf (eVar 1)) (gVar 3) tYes (eBin oAdd (eVar 3) (eTup (eCons (eVar 2) eNil))) [3]))))))
      (sRet (eL (lComp (iOf (eL (lSorted (eL (lComp (iOf (eVar 1)) (gVar 3) tYes (eTup (eCons (eU' gLen (eVar 3)) (eCons (eVar 3) eNil))) [3]))))) (gVar 4) tYes (eIx (eVar 4) (eC (.int 1))) [4])))))
def f__law_lots : Fn := fun ds => scp (runB 5 b__law_lots ds)
-- slots of _law_weakest: 0 web, 1 lot
def b__law_weakest : S :=
  (sSeq (sFor (iOf (eCall f__law_lots (eCons (eU' gLen (eVar 0)) eNil))) (gVar 1) (sIf (tNot (tE (eCall f__law_holds (eCons (eVar 0) (eCons (eVar 1) eNil))))) (sRet (eVar 1)) sSkip))
      (sRet (eC .non)))
def f__law_weakest : Fn := fun ds => scp (runB 2 b__law_weakest ds)
-- slots of law: 0 script, 1 hand, 2 turn, 3 web, 4 lot, 5 many, 6 due
def b_law : S :=
  (sSeq (sSet 1 (eCall f__law_hand (eCons (eVar 0) eNil)))
      (sSeq (sFor (iRange (eC (.int 3))) (gVar 2) (sSeq (sSet 3 (eCall f__law_drawn_web (eCons (eVar 1) (eCons (eIf (tAnd (tCmp dEq (eVar 2) (eC (.int 0))) (tCmp dEq (eCall f__law_draw (eCons (eVar 1) (eCons (eC (.int 8)) eNil))) (eC (.int 0)))) (eC (.int 8)) (eC (.int 6))) eNil))))
      (sSeq (sSet 4 (eCall f__law_weakest (eCons (eVar 3) eNil)))
      (sSeq (sFor (iRange (eC (.int 10))) (gVar 5) (sSeq (sSet 6 (eIf (tOr (tCmp dIsN' (eVar 4) (eC .non)) (tCmp dGt (eU' gLen (eVar 4)) (eVar 5))) (eC .non) (eVar 4)))
      (sIf (tOr (tNot (tE (eCall (f__law_is 8) (eCons (eL (lDisp (eCons (eCall f_weak (eCons (eVar 3) (eCons (eVar 5) eNil))) eNil))) (eCons (eL (lDisp (eCons (eVar 6) eNil))) eNil))))) (tNot (tE (eCall f__law_flag (eCons (eCall f_firm (eCons (eVar 3) (eCons (eVar 5) eNil))) (eCons (eB (tCmp dIsN' (eVar 6) (eC .non))) eNil)))))) (sRet (eC (.bl false))) sSkip)))
      (sSeq (sSet 6 (eIf (tCmp dIsN' (eVar 4) (eC .non)) (eU' gLen (eVar 3)) (eBin oSub (eU' gLen (eVar 4)) (eC (.int 1)))))
      (sIf (tOr (tNot (tE (eCall (f__law_is 8) (eCons (eCall f_greatest_firm (eCons (eVar 3) eNil)) (eCons (eVar 6) eNil))))) (tCmp dNe (eCall f_greatest_firm (eCons (eVar 3) eNil)) (eVar 6))) (sRet (eC (.bl false))) sSkip))))))
      (sRet (eC (.bl true)))))
def f_law : Fn := fun ds => scp (runB 7 b_law ds)
end K45

set_option Elab.async false
set_option linter.all false
set_option autoImplicit false
set_option maxRecDepth 100000
set_option maxHeartbeats 4000000
namespace K45
open PySem PySem.Spec PyProof.Rows L2 Mi
def top (i : Nat) : Stmt := PySem.Challenge.pw_stillfound_k45_whole_people_who_vanish.main.body.getD i (.Pass ⟨0, 0, 0, 0⟩)
abbrev s_is_integer : Stmt := top 5
abbrev s_is_between : Stmt := top 6
abbrev s_is_index : Stmt := top 7
abbrev s_check_number : Stmt := top 8
abbrev s_are_ascending : Stmt := top 9
abbrev s_is_pocket : Stmt := top 12
abbrev s_is_web : Stmt := top 13
abbrev s_check_web : Stmt := top 14
abbrev s_found_from : Stmt := top 15
abbrev s_raw_finds : Stmt := top 16
abbrev s_lots_up_to : Stmt := top 19
abbrev s_without_people : Stmt := top 20
abbrev s_hangs_together : Stmt := top 21
abbrev s_first_weak : Stmt := top 22
abbrev s_check_asked : Stmt := top 23
abbrev s_firm : Stmt := top 24
abbrev s_weak : Stmt := top 25
abbrev s_greatest_firm : Stmt := top 26
abbrev s__law_hand : Stmt := top 28
abbrev s__law_draw : Stmt := top 29
abbrev s__law_some : Stmt := top 30
abbrev s__law_is : Stmt := top 31
abbrev s__law_flag : Stmt := top 32
abbrev s__law_web : Stmt := top 33
abbrev s__law_drawn_web : Stmt := top 34
abbrev s__law_reached : Stmt := top 35
abbrev s__law_holds : Stmt := top 36
abbrev s__law_lots : Stmt := top 37
abbrev s__law_weakest : Stmt := top 38
abbrev s_law : Stmt := top 39
structure Top (K : PySem.W.Frag) (mg : Str → Option Value) : Prop where
  a_is_integer : At K mg "is_integer" ["thing"] s_is_integer
  a_is_between : At K mg "is_between" ["thing", "least", "most"] s_is_between
  a_is_index : At K mg "is_index" ["thing", "many"] s_is_index
  a_check_number : At K mg "check_number" ["thing", "least", "most"] s_check_number
  a_are_ascending : At K mg "are_ascending" ["things"] s_are_ascending
  a_is_pocket : At K mg "is_pocket" ["thing", "person", "many"] s_is_pocket
  a_is_web : At K mg "is_web" ["thing"] s_is_web
  a_check_web : At K mg "check_web" ["thing"] s_check_web
  a_found_from : At K mg "found_from" ["web", "person"] s_found_from
  a_raw_finds : At K mg "raw_finds" ["web"] s_raw_finds
  a_lots_up_to : At K mg "lots_up_to" ["many", "most"] s_lots_up_to
  a_without_people : At K mg "without_people" ["web", "lot"] s_without_people
  a_hangs_together : At K mg "hangs_together" ["web", "lot"] s_hangs_together
  a_first_weak : At K mg "first_weak" ["web", "most"] s_first_weak
  a_check_asked : At K mg "check_asked" ["web", "k"] s_check_asked
  a_firm : At K mg "firm" ["web", "k"] s_firm
  a_weak : At K mg "weak" ["web", "k"] s_weak
  a_greatest_firm : At K mg "greatest_firm" ["web"] s_greatest_firm
  a__law_hand : At K mg "_law_hand" ["script"] s__law_hand
  a__law_draw : At K mg "_law_draw" ["hand", "many"] s__law_draw
  a__law_some : At K mg "_law_some" ["hand", "things"] s__law_some
  a__law_is : At K mg "_law_is" ["told", "due"] s__law_is
  a__law_flag : At K mg "_law_flag" ["told", "due"] s__law_flag
  a__law_web : At K mg "_law_web" ["hand", "many", "share"] s__law_web
  a__law_drawn_web : At K mg "_law_drawn_web" ["hand", "most"] s__law_drawn_web
  a__law_reached : At K mg "_law_reached" ["web", "gone", "person"] s__law_reached
  a__law_holds : At K mg "_law_holds" ["web", "gone"] s__law_holds
  a__law_lots : At K mg "_law_lots" ["many"] s__law_lots
  a__law_weakest : At K mg "_law_weakest" ["web"] s__law_weakest
  a_law : At K mg "law" ["script"] s_law
  b_abs : mg "abs" = none
  b_all : mg "all" = none
  b_bool : mg "bool" = none
  b_dict : mg "dict" = none
  b_enumerate : mg "enumerate" = none
  b_int : mg "int" = none
  b_isinstance : mg "isinstance" = none
  b_len : mg "len" = none
  b_list : mg "list" = none
  b_min : mg "min" = none
  b_range : mg "range" = none
  b_sorted : mg "sorted" = none
  b_tuple : mg "tuple" = none
  b_zip : mg "zip" = none
  c_MOST_PEOPLE : ∃ t, mg "MOST_PEOPLE" = some (.int 9 t)
  c_MOST_VANISHING : ∃ t, mg "MOST_VANISHING" = some (.int 9 t)
section
variable {P : Program} {w : World} {K : PySem.W.Frag} {mg : Str → Option Value} {base : Heap}
theorem sc_is_integer : FnScope ["thing"] ["thing"] (defScope s_is_integer) := ⟨rfl, rfl, rfl, by decide +kernel, rfl, by decide +kernel, by decide +kernel⟩
theorem ok_is_integer (T : Top K mg) : OkF P w K mg base 1 "is_integer" ["thing"] f_is_integer :=
  okf T.a_is_integer sc_is_integer fun f cdv A outer s H E B W hr tk =>
    (css_one (cs_ret (ce_and (ce_isi (c := "int") (by decide) (by rfl) T.b_isinstance (by rfl) T.b_int (by decide +kernel) (cv 0)) (ce_one (ce_not (ce_isi (c := "bool") (by decide) (by rfl) T.b_isinstance (by rfl) T.b_bool (by decide +kernel) (cv 0)))))))
theorem sc_is_between : FnScope ["thing", "least", "most"] ["thing", "least", "most"] (defScope s_is_between) := ⟨rfl, rfl, rfl, by decide +kernel, rfl, by decide +kernel, by decide +kernel⟩
theorem ok_is_between (T : Top K mg) : OkF P w K mg base 2 "is_between" ["thing", "least", "most"] f_is_between :=
  okf T.a_is_between sc_is_between fun f cdv A outer s H E B W hr tk =>
    (css_one (cs_ret (ce_and (cc (ok_is_integer T) (hr.mono (by decide)) tk (ca_cons (cv 0) ca_nil)) (ce_one (ce_chain cmp_le cmp_le (cv 1) (cv 0) (cv 2))))))
theorem sc_is_index : FnScope ["thing", "many"] ["thing", "many"] (defScope s_is_index) := ⟨rfl, rfl, rfl, by decide +kernel, rfl, by decide +kernel, by decide +kernel⟩
theorem ok_is_index (T : Top K mg) : OkF P w K mg base 3 "is_index" ["thing", "many"] f_is_index :=
  okf T.a_is_index sc_is_index fun f cdv A outer s H E B W hr tk =>
    (css_one (cs_ret (cc (ok_is_between T) (hr.mono (by decide)) tk (ca_cons (cv 0) (ca_cons ce_int (ca_cons (ce_bin ops_sub (cv 1) ce_int) ca_nil))))))
theorem sc_check_number : FnScope ["thing", "least", "most"] ["thing", "least", "most"] (defScope s_check_number) := ⟨rfl, rfl, rfl, by decide +kernel, rfl, by decide +kernel, by decide +kernel⟩
theorem ok_check_number (T : Top K mg) : OkF P w K mg base 3 "check_number" ["thing", "least", "most"] f_check_number :=
  okf T.a_check_number sc_check_number fun f cdv A outer s H E B W hr tk =>
    (css_one (cs_if (ct_not (ct_val (cc (ok_is_between T) (hr.mono (by decide)) tk (ca_cons (cv 0) (ca_cons (cv 1) (ca_cons (cv 2) ca_nil)))))) (css_one cs_never) css_nil))
theorem sc_are_ascending : FnScope ["things", "one", "other"] ["things"] (defScope s_are_ascending) := ⟨rfl, rfl, rfl, by decide +kernel, rfl, by decide +kernel, by decide +kernel⟩
theorem ok_are_ascending (T : Top K mg) : OkF P w K mg base 1 "are_ascending" ["things"] f_are_ascending :=
  okf T.a_are_ascending sc_are_ascending fun f cdv A outer s H E B W hr tk =>
    (css_one (cs_ret (ce_callB (cs_all rfl) (by rfl) T.b_all PyProof.Rows.boot_all (ce_l (cl_comp (own := [(("one" : Str), 1), (("other" : Str), 2)]) rfl sc_are_ascending.nd (ci_zip (by rfl) T.b_zip (cv 0) (ce_sl (cv 0) (cp_at ce_int) cp_no)) (blkOk_by (own := [(("one" : Str), 1), (("other" : Str), 2)]) (by dsimp only [cxOf, envOfC, Cx.blk, compEnvC, relabel, Env.blockKind, Env.kindOf]; first | decide +kernel | rfl)) (fun _ _ _ _ _ => (cg_set2 rfl sc_are_ascending.nd (i := 1) (j := 2) rfl (by first | exact Or.inl rfl | exact Or.inr rfl) rfl (by first | exact Or.inl rfl | exact Or.inr rfl))) (fun _ _ _ _ _ => cts_nil) (fun _ _ _ _ _ _ => (ce_cmp cmp_lt (cv 1) (cv 2) (nomark _))) (by decide))))))
theorem sc_is_pocket : FnScope ["thing", "person", "many", "other"] ["thing", "person", "many"] (defScope s_is_pocket) := ⟨rfl, rfl, rfl, by decide +kernel, rfl, by decide +kernel, by decide +kernel⟩
theorem ok_is_pocket (T : Top K mg) : OkF P w K mg base 4 "is_pocket" ["thing", "person", "many"] f_is_pocket :=
  okf T.a_is_pocket sc_is_pocket fun f cdv A outer s H E B W hr tk =>
    (css_cons (cs_if (ct_w (ct_or (ct_not (ct_val (ce_isi (c := "tuple") (by decide) (by rfl) T.b_isinstance (by rfl) T.b_tuple (by decide +kernel) (cv 0)))) (ct_or1 (ct_not (ct_val (ce_callB (cs_all rfl) (by rfl) T.b_all PyProof.Rows.boot_all (ce_l (cl_comp (own := [(("other" : Str), 3)]) rfl sc_is_pocket.nd (ci_of (cv 0)) (blkOk_by (own := [(("other" : Str), 3)]) (by dsimp only [cxOf, envOfC, Cx.blk, compEnvC, relabel, Env.blockKind, Env.kindOf]; first | decide +kernel | rfl)) (fun _ _ _ _ _ => (cg_var sc_is_pocket.nd (i := 3) rfl (by first | exact Or.inl rfl | exact Or.inr rfl))) (fun _ _ _ _ _ => cts_nil) (fun _ _ _ _ _ _ => (cc (ok_is_index T) (hr.mono (by decide)) takes0' (ca_cons (cv 3) (ca_cons (cv 2) ca_nil)))) (by decide))))))))) (css_one (cs_ret ce_bl)) css_nil)
      (css_one (cs_ret (ce_and (cc (ok_are_ascending T) (hr.mono (by decide)) tk (ca_cons (cv 0) ca_nil)) (ce_one (ce_cmp (cmp_notIn (hu90 hr)) (cv 1) (cv 0) (by rfl)))))))
theorem sc_is_web : FnScope ["thing", "person", "pocket"] ["thing"] (defScope s_is_web) := ⟨rfl, rfl, rfl, by decide +kernel, rfl, by decide +kernel, by decide +kernel⟩
theorem ok_is_web (T : Top K mg) : OkF P w K mg base 5 "is_web" ["thing"] f_is_web :=
  okf T.a_is_web sc_is_web fun f cdv A outer s H E B W hr tk =>
    (css_cons (cs_if (ct_w (ct_or (ct_not (ct_val (ce_isi (c := "tuple") (by decide) (by rfl) T.b_isinstance (by rfl) T.b_tuple (by decide +kernel) (cv 0)))) (ct_or1 (ct_not (ct_chain cmp_le cmp_le ce_int (ce_callB cs_len (by rfl) T.b_len PySem.boot_len (cv 0)) (ce_gint (by rfl) T.c_MOST_PEOPLE)))))) (css_one (cs_ret ce_bl)) css_nil)
      (css_one (cs_ret (ce_callB (cs_all rfl) (by rfl) T.b_all PyProof.Rows.boot_all (ce_l (cl_comp (own := [(("person" : Str), 1), (("pocket" : Str), 2)]) rfl sc_is_web.nd (ci_enum (by rfl) T.b_enumerate (cv 0)) (blkOk_by (own := [(("person" : Str), 1), (("pocket" : Str), 2)]) (by dsimp only [cxOf, envOfC, Cx.blk, compEnvC, relabel, Env.blockKind, Env.kindOf]; first | decide +kernel | rfl)) (fun _ _ _ _ _ => (cg_set2 rfl sc_is_web.nd (i := 1) (j := 2) rfl (by first | exact Or.inl rfl | exact Or.inr rfl) rfl (by first | exact Or.inl rfl | exact Or.inr rfl))) (fun _ _ _ _ _ => cts_nil) (fun _ _ _ _ _ _ => (cc (ok_is_pocket T) (hr.mono (by decide)) takes0' (ca_cons (cv 2) (ca_cons (cv 1) (ca_cons (ce_callB cs_len (by rfl) T.b_len PySem.boot_len (cv 0)) ca_nil))))) (by decide)))))))
theorem sc_check_web : FnScope ["thing"] ["thing"] (defScope s_check_web) := ⟨rfl, rfl, rfl, by decide +kernel, rfl, by decide +kernel, by decide +kernel⟩
theorem ok_check_web (T : Top K mg) : OkF P w K mg base 6 "check_web" ["thing"] f_check_web :=
  okf T.a_check_web sc_check_web fun f cdv A outer s H E B W hr tk =>
    (css_one (cs_if (ct_not (ct_val (cc (ok_is_web T) (hr.mono (by decide)) tk (ca_cons (cv 0) ca_nil)))) (css_one cs_never) css_nil))
theorem sc_found_from : FnScope ["web", "person", "found", "at", "other"] ["web", "person"] (defScope s_found_from) := ⟨rfl, rfl, rfl, by decide +kernel, rfl, by decide +kernel, by decide +kernel⟩
theorem ok_found_from (T : Top K mg) : OkF P w K mg base 1 "found_from" ["web", "person"] f_found_from :=
  okf T.a_found_from sc_found_from fun f cdv A outer s H E B W hr tk =>
    (css_cons (cs_set (i := 2) sc_found_from.nd rfl (by first | exact Or.inl rfl | exact Or.inr rfl) (ce_new (cl_disp (ca_cons (cv 1) ca_nil))))
      (css_cons (cs_set (i := 3) sc_found_from.nd rfl (by first | exact Or.inl rfl | exact Or.inr rfl) ce_int)
      (css_cons (cs_while fuel (passes_of rfl) (ct_cmp cmp_lt (cv 3) (ce_callB cs_len (by rfl) T.b_len PySem.boot_len (cv 2)) (nomark _)) (css_cons (cs_ext (cv 2) (ce_l (cl_comp (own := [(("other" : Str), 4)]) rfl sc_found_from.nd (ci_of (ce_ix (cv 0) (ce_ix (cv 2) (cv 3) (fun _ _ => rfl)) (fun _ _ => rfl))) (blkOk_by (own := [(("other" : Str), 4)]) (by dsimp only [cxOf, envOfC, Cx.blk, compEnvC, relabel, Env.blockKind, Env.kindOf]; first | decide +kernel | rfl)) (fun _ _ _ _ _ => (cg_var sc_found_from.nd (i := 4) rfl (by first | exact Or.inl rfl | exact Or.inr rfl))) (fun _ _ _ _ _ => (cts_one fun _ => (ct_cmp (cmp_notIn (hu90 hr)) (cv 4) (cv 2) (by rfl)))) (fun _ _ _ _ _ _ => (cv 4)) (by decide))))
      (css_one (cs_augAdd (i := 3) sc_found_from.nd rfl (by first | exact Or.inl rfl | exact Or.inr rfl) ce_int))))
      (css_one (cs_ret (cv 2))))))
theorem sc_raw_finds : FnScope ["web", "person"] ["web"] (defScope s_raw_finds) := ⟨rfl, rfl, rfl, by decide +kernel, rfl, by decide +kernel, by decide +kernel⟩
theorem ok_raw_finds (T : Top K mg) : OkF P w K mg base 2 "raw_finds" ["web"] f_raw_finds :=
  okf T.a_raw_finds sc_raw_finds fun f cdv A outer s H E B W hr tk =>
    (css_one (cs_ret (ce_callTy cs_tup (by rfl) T.b_tuple PyProof.Rows.boot_tuple (ce_l (cl_comp (own := [(("person" : Str), 1)]) rfl sc_raw_finds.nd (ci_range (by rfl) T.b_range (ce_callB cs_len (by rfl) T.b_len PySem.boot_len (cv 0))) (blkOk_by (own := [(("person" : Str), 1)]) (by dsimp only [cxOf, envOfC, Cx.blk, compEnvC, relabel, Env.blockKind, Env.kindOf]; first | decide +kernel | rfl)) (fun _ _ _ _ _ => (cg_var sc_raw_finds.nd (i := 1) rfl (by first | exact Or.inl rfl | exact Or.inr rfl))) (fun _ _ _ _ _ => cts_nil) (fun _ _ _ _ _ _ => (ce_callTy cs_tup (by rfl) T.b_tuple PyProof.Rows.boot_tuple (ce_l (cl_sorted (hu90 hr) (by rfl) T.b_sorted (cc (ok_found_from T) (hr.mono (by decide)) takes0' (ca_cons (cv 0) (ca_cons (cv 1) ca_nil))))))) (by decide))))))
theorem sc_lots_up_to : FnScope ["many", "most", "found", "longest", "size", "longer", "lot", "begin", "person"] ["many", "most"] (defScope s_lots_up_to) := ⟨rfl, rfl, rfl, by decide +kernel, rfl, by decide +kernel, by decide +kernel⟩
theorem ok_lots_up_to (T : Top K mg) : OkF P w K mg base 1 "lots_up_to" ["many", "most"] f_lots_up_to :=
  okf T.a_lots_up_to sc_lots_up_to fun f cdv A outer s H E B W hr tk =>
    (css_cons (cs_set (i := 2) sc_lots_up_to.nd rfl (by first | exact Or.inl rfl | exact Or.inr rfl) (ce_new (cl_disp (ca_cons (ce_tup ca_nil) ca_nil))))
      (css_cons (cs_set (i := 3) sc_lots_up_to.nd rfl (by first | exact Or.inl rfl | exact Or.inr rfl) (ce_l (cl_disp (ca_cons (ce_tup ca_nil) ca_nil))))
      (css_cons (cs_for (passes_of rfl) rfl (ci_range (by rfl) T.b_range (ce_min2 rfl (by rfl) T.b_min (cv 0) (cv 1))) (cg_var sc_lots_up_to.nd (i := 4) rfl (by first | exact Or.inl rfl | exact Or.inr rfl)) (css_cons (cs_set (i := 5) sc_lots_up_to.nd rfl (by first | exact Or.inl rfl | exact Or.inr rfl) (ce_new (cl_disp ca_nil)))
      (css_cons (cs_for (passes_of rfl) rfl (ci_of (cv 3)) (cg_var sc_lots_up_to.nd (i := 6) rfl (by first | exact Or.inl rfl | exact Or.inr rfl)) (css_cons (cs_set (i := 7) sc_lots_up_to.nd rfl (by first | exact Or.inl rfl | exact Or.inr rfl) (ce_if (ct_cmp cmp_gt (ce_callB cs_len (by rfl) T.b_len PySem.boot_len (cv 6)) ce_int (nomark _)) (ce_bin ops_add (ce_ix (cv 6) (ce_neg ce_int) (fun _ _ => rfl)) ce_int) ce_int))
      (css_one (cs_ext (cv 5) (ce_l (cl_comp (own := [(("person" : Str), 8)]) rfl sc_lots_up_to.nd (ci_range2 (by rfl) T.b_range (cv 7) (cv 0)) (blkOk_by (own := [(("person" : Str), 8)]) (by dsimp only [cxOf, envOfC, Cx.blk, compEnvC, relabel, Env.blockKind, Env.kindOf]; first | decide +kernel | rfl)) (fun _ _ _ _ _ => (cg_var sc_lots_up_to.nd (i := 8) rfl (by first | exact Or.inl rfl | exact Or.inr rfl))) (fun _ _ _ _ _ => cts_nil) (fun _ _ _ _ _ _ => (ce_bin ops_add (cv 6) (ce_tup (ca_cons (cv 8) ca_nil)))) (by decide)))))))
      (css_cons (cs_ext (cv 2) (cv 5))
      (css_one (cs_set (i := 3) sc_lots_up_to.nd rfl (by first | exact Or.inl rfl | exact Or.inr rfl) (cv 5)))))))
      (css_one (cs_ret (cv 2))))))
theorem sc_without_people : FnScope ["web", "lot", "kept", "other", "pocket", "person"] ["web", "lot"] (defScope s_without_people) := ⟨rfl, rfl, rfl, by decide +kernel, rfl, by decide +kernel, by decide +kernel⟩
theorem ok_without_people (T : Top K mg) : OkF P w K mg base 1 "without_people" ["web", "lot"] f_without_people :=
  okf T.a_without_people sc_without_people fun f cdv A outer s H E B W hr tk =>
    (css_cons (cs_setLc (own := [(("pocket" : Str), 4)]) (i := 2) rfl sc_without_people.nd rfl rfl (sw_true rfl rfl rfl (by decide +kernel)) (ci_of (cv 0)) (blkOk_by (own := [(("pocket" : Str), 4)]) (by dsimp only [cxOf, envOfC, Cx.blk, compEnvC, relabel, Env.blockKind, Env.kindOf]; first | decide +kernel | rfl)) (fun _ _ _ _ _ => (cg_var sc_without_people.nd (i := 4) rfl (by first | exact Or.inl rfl | exact Or.inr rfl))) (fun _ _ _ _ _ => cts_nil) (fun _ _ _ _ _ _ => (ce_callTy cs_tup (by rfl) T.b_tuple PyProof.Rows.boot_tuple (ce_l (cl_comp (own := [(("other" : Str), 3)]) rfl sc_without_people.nd (ci_of (cv 4)) (blkOk_by (own := [(("other" : Str), 3)]) (by dsimp only [cxOf, envOfC, Cx.blk, compEnvC, relabel, Env.blockKind, Env.kindOf]; first | decide +kernel | rfl)) (fun _ _ _ _ _ => (cg_var sc_without_people.nd (i := 3) rfl (by first | exact Or.inl rfl | exact Or.inr rfl))) (fun _ _ _ _ _ => (cts_one fun _ => (ct_cmp (cmp_notIn (hu90 hr)) (cv 3) (cv 1) (by rfl)))) (fun _ _ _ _ _ _ => (cv 3)) (by decide))))) (by decide) (hs := by intro _; rfl) false)
      (css_one (cs_ret (ce_callTy cs_tup (by rfl) T.b_tuple PyProof.Rows.boot_tuple (ce_l (cl_comp (own := [(("pocket" : Str), 4), (("person" : Str), 5)]) rfl sc_without_people.nd (ci_enum (by rfl) T.b_enumerate (cv 2)) (blkOk_by (own := [(("pocket" : Str), 4), (("person" : Str), 5)]) (by dsimp only [cxOf, envOfC, Cx.blk, compEnvC, relabel, Env.blockKind, Env.kindOf]; first | decide +kernel | rfl)) (fun _ _ _ _ _ => (cg_set2 rfl sc_without_people.nd (i := 5) (j := 4) rfl (by first | exact Or.inl rfl | exact Or.inr rfl) rfl (by first | exact Or.inl rfl | exact Or.inr rfl))) (fun _ _ _ _ _ => cts_nil) (fun _ _ _ _ _ _ => (ce_if (ct_cmp (cmp_in (hu90 hr)) (cv 5) (cv 1) (by rfl)) (ce_tup ca_nil) (cv 4))) (by decide)))))))
theorem sc_hangs_together : FnScope ["web", "lot", "left", "lots", "person"] ["web", "lot"] (defScope s_hangs_together) := ⟨rfl, rfl, rfl, by decide +kernel, rfl, by decide +kernel, by decide +kernel⟩
theorem ok_hangs_together (T : Top K mg) : OkF P w K mg base 3 "hangs_together" ["web", "lot"] f_hangs_together :=
  okf T.a_hangs_together sc_hangs_together fun f cdv A outer s H E B W hr tk =>
    (css_cons (cs_set (i := 2) sc_hangs_together.nd rfl (by first | exact Or.inl rfl | exact Or.inr rfl) (ce_callTy cs_tup (by rfl) T.b_tuple PyProof.Rows.boot_tuple (ce_l (cl_comp (own := [(("person" : Str), 4)]) rfl sc_hangs_together.nd (ci_range (by rfl) T.b_range (ce_callB cs_len (by rfl) T.b_len PySem.boot_len (cv 0))) (blkOk_by (own := [(("person" : Str), 4)]) (by dsimp only [cxOf, envOfC, Cx.blk, compEnvC, relabel, Env.blockKind, Env.kindOf]; first | decide +kernel | rfl)) (fun _ _ _ _ _ => (cg_var sc_hangs_together.nd (i := 4) rfl (by first | exact Or.inl rfl | exact Or.inr rfl))) (fun _ _ _ _ _ => (cts_one fun _ => (ct_cmp (cmp_notIn (hu90 hr)) (cv 4) (cv 1) (by rfl)))) (fun _ _ _ _ _ _ => (cv 4)) (by decide)))))
      (css_cons (cs_set (i := 3) sc_hangs_together.nd rfl (by first | exact Or.inl rfl | exact Or.inr rfl) (cc (ok_raw_finds T) (hr.mono (by decide)) tk (ca_cons (cc (ok_without_people T) (hr.mono (by decide)) tk (ca_cons (cv 0) (ca_cons (cv 1) ca_nil))) ca_nil)))
      (css_one (cs_ret (ce_callB (cs_all rfl) (by rfl) T.b_all PyProof.Rows.boot_all (ce_l (cl_comp (own := [(("person" : Str), 4)]) rfl sc_hangs_together.nd (ci_of (cv 2)) (blkOk_by (own := [(("person" : Str), 4)]) (by dsimp only [cxOf, envOfC, Cx.blk, compEnvC, relabel, Env.blockKind, Env.kindOf]; first | decide +kernel | rfl)) (fun _ _ _ _ _ => (cg_var sc_hangs_together.nd (i := 4) rfl (by first | exact Or.inl rfl | exact Or.inr rfl))) (fun _ _ _ _ _ => cts_nil) (fun _ _ _ _ _ _ => (ce_cmp (cmp_eq (hu90 hr)) (ce_ix (cv 3) (cv 4) (fun _ _ => rfl)) (cv 2) (nomark _))) (by decide))))))))
theorem sc_first_weak : FnScope ["web", "most", "lot"] ["web", "most"] (defScope s_first_weak) := ⟨rfl, rfl, rfl, by decide +kernel, rfl, by decide +kernel, by decide +kernel⟩
theorem ok_first_weak (T : Top K mg) : OkF P w K mg base 4 "first_weak" ["web", "most"] f_first_weak :=
  okf T.a_first_weak sc_first_weak fun f cdv A outer s H E B W hr tk =>
    (css_cons (cs_for (passes_of rfl) rfl (ci_of (cc (ok_lots_up_to T) (hr.mono (by decide)) tk (ca_cons (ce_callB cs_len (by rfl) T.b_len PySem.boot_len (cv 0)) (ca_cons (cv 1) ca_nil)))) (cg_var sc_first_weak.nd (i := 2) rfl (by first | exact Or.inl rfl | exact Or.inr rfl)) (css_one (cs_if (ct_not (ct_val (cc (ok_hangs_together T) (hr.mono (by decide)) tk (ca_cons (cv 0) (ca_cons (cv 2) ca_nil))))) (css_one (cs_ret (cv 2))) css_nil)))
      (css_one (cs_ret ce_non)))
theorem sc_check_asked : FnScope ["web", "k"] ["web", "k"] (defScope s_check_asked) := ⟨rfl, rfl, rfl, by decide +kernel, rfl, by decide +kernel, by decide +kernel⟩
theorem ok_check_asked (T : Top K mg) : OkF P w K mg base 7 "check_asked" ["web", "k"] f_check_asked :=
  okf T.a_check_asked sc_check_asked fun f cdv A outer s H E B W hr tk =>
    (css_cons (cs_expr (cc (ok_check_web T) (hr.mono (by decide)) tk (ca_cons (cv 0) ca_nil)))
      (css_one (cs_expr (cc (ok_check_number T) (hr.mono (by decide)) tk (ca_cons (cv 1) (ca_cons ce_int (ca_cons (ce_gint (by rfl) T.c_MOST_VANISHING) ca_nil)))))))
theorem sc_firm : FnScope ["web", "k"] ["web", "k"] (defScope s_firm) := ⟨rfl, rfl, rfl, by decide +kernel, rfl, by decide +kernel, by decide +kernel⟩
theorem ok_firm (T : Top K mg) : OkF P w K mg base 8 "firm" ["web", "k"] f_firm :=
  okf T.a_firm sc_firm fun f cdv A outer s H E B W hr tk =>
    (css_cons (cs_expr (cc (ok_check_asked T) (hr.mono (by decide)) tk (ca_cons (cv 0) (ca_cons (cv 1) ca_nil))))
      (css_one (cs_ret (ce_cmp cmp_isN (cc (ok_first_weak T) (hr.mono (by decide)) tk (ca_cons (cv 0) (ca_cons (cv 1) ca_nil))) ce_non (nomark _)))))
theorem sc_weak : FnScope ["web", "k"] ["web", "k"] (defScope s_weak) := ⟨rfl, rfl, rfl, by decide +kernel, rfl, by decide +kernel, by decide +kernel⟩
theorem ok_weak (T : Top K mg) : OkF P w K mg base 8 "weak" ["web", "k"] f_weak :=
  okf T.a_weak sc_weak fun f cdv A outer s H E B W hr tk =>
    (css_cons (cs_expr (cc (ok_check_asked T) (hr.mono (by decide)) tk (ca_cons (cv 0) (ca_cons (cv 1) ca_nil))))
      (css_one (cs_ret (cc (ok_first_weak T) (hr.mono (by decide)) tk (ca_cons (cv 0) (ca_cons (cv 1) ca_nil))))))
theorem sc_greatest_firm : FnScope ["web", "lot"] ["web"] (defScope s_greatest_firm) := ⟨rfl, rfl, rfl, by decide +kernel, rfl, by decide +kernel, by decide +kernel⟩
theorem ok_greatest_firm (T : Top K mg) : OkF P w K mg base 7 "greatest_firm" ["web"] f_greatest_firm :=
  okf T.a_greatest_firm sc_greatest_firm fun f cdv A outer s H E B W hr tk =>
    (css_cons (cs_expr (cc (ok_check_web T) (hr.mono (by decide)) tk (ca_cons (cv 0) ca_nil)))
      (css_cons (cs_set (i := 1) sc_greatest_firm.nd rfl (by first | exact Or.inl rfl | exact Or.inr rfl) (cc (ok_first_weak T) (hr.mono (by decide)) tk (ca_cons (cv 0) (ca_cons (ce_callB cs_len (by rfl) T.b_len PySem.boot_len (cv 0)) ca_nil))))
      (css_one (cs_ret (ce_if (ct_cmp cmp_isN (cv 1) ce_non (nomark _)) (ce_callB cs_len (by rfl) T.b_len PySem.boot_len (cv 0)) (ce_bin ops_sub (ce_callB cs_len (by rfl) T.b_len PySem.boot_len (cv 1)) ce_int))))))
theorem sc__law_hand : FnScope ["script", "cells", "cell"] ["script"] (defScope s__law_hand) := ⟨rfl, rfl, rfl, by decide +kernel, rfl, by decide +kernel, by decide +kernel⟩
theorem ok__law_hand (T : Top K mg) : OkF P w K mg base 1 "_law_hand" ["script"] f__law_hand :=
  okr T.a__law_hand sc__law_hand fun f cdv A outer s H E B W hr tk =>
    (css_cons (cs_setLc (own := [(("cell" : Str), 2)]) (i := 1) rfl sc__law_hand.nd rfl rfl (sw_true rfl rfl rfl (by decide +kernel)) (ci_of (ce_sl (cv 0) cp_no (cp_at ce_int))) (blkOk_by (own := [(("cell" : Str), 2)]) (by dsimp only [cxOf, envOfC, Cx.blk, compEnvC, relabel, Env.blockKind, Env.kindOf]; first | decide +kernel | rfl)) (fun _ _ _ _ _ => (cg_var sc__law_hand.nd (i := 2) rfl (by first | exact Or.inl rfl | exact Or.inr rfl))) (fun _ _ _ _ _ => cts_nil) (fun _ _ _ _ _ _ => (ce_callB cs_abs (by rfl) T.b_abs PyProof.Rows.boot_abs (ce_callTy cs_int (by rfl) T.b_int PyProof.Rows.boot_int (cv 2)))) (by decide) (hs := by intro _; rfl) false)
      (css_one (cs_ret (ce_new (cl_disp (ca_cons (cv 1) (ca_cons ce_int (ca_cons ce_int (ca_cons (ce_bin ops_add ce_int (ce_callB cs_len (by rfl) T.b_len PySem.boot_len (cv 1))) (ca_cons ce_int ca_nil))))))))))
theorem sc__law_draw : FnScope ["hand", "many", "cell", "digit", "number"] ["hand", "many"] (defScope s__law_draw) := ⟨rfl, rfl, rfl, by decide +kernel, rfl, by decide +kernel, by decide +kernel⟩
theorem ok__law_draw (T : Top K mg) : OkF P w K mg base 1 "_law_draw" ["hand", "many"] f__law_draw :=
  okf T.a__law_draw sc__law_draw fun f cdv A outer s H E B W hr tk =>
    (css_cons (cs_if (ct_w (ct_and (ct_cmp (cmp_eq (hu90 hr)) (ce_ix (cv 0) ce_int (fun _ _ => rfl)) ce_int (nomark _)) (ct_and1 (ct_cmp cmp_lt (ce_ix (cv 0) ce_int (fun _ _ => rfl)) (ce_callB cs_len (by rfl) T.b_len PySem.boot_len (ce_ix (cv 0) ce_int (fun _ _ => rfl))) (nomark _))))) (css_cons (cs_set (i := 2) sc__law_draw.nd rfl (by first | exact Or.inl rfl | exact Or.inr rfl) (ce_ix (ce_ix (cv 0) ce_int (fun _ _ => rfl)) (ce_ix (cv 0) ce_int (fun _ _ => rfl)) (fun _ _ => rfl)))
      (css_cons (cs_put (cv 0) ce_int (ce_bin ops_add (ce_ix (cv 0) ce_int (fun _ _ => rfl)) ce_int))
      (css_cons (cs_put (cv 0) ce_int (ce_bin ops_mod (ce_callTy cs_int (by rfl) T.b_int PyProof.Rows.boot_int (ce_bin ops_add (ce_bin ops_add (ce_bin ops_mul (ce_ix (cv 0) ce_int (fun _ _ => rfl)) ce_int) (cv 2)) ce_int)) ce_int))
      (css_one (cs_if (ct_cmp cmp_ge (cv 2) (ce_bin ops_pow ce_int ce_int) (nomark _)) (css_one (cs_put (cv 0) ce_int (cv 2))) css_nil))))) css_nil)
      (css_cons (cs_if (ct_cmp cmp_gt (ce_ix (cv 0) ce_int (fun _ _ => rfl)) ce_int (nomark _)) (css_cons (cs_set (i := 3) sc__law_draw.nd rfl (by first | exact Or.inl rfl | exact Or.inr rfl) (ce_bin ops_mod (ce_callTy cs_int (by rfl) T.b_int PyProof.Rows.boot_int (ce_ix (cv 0) ce_int (fun _ _ => rfl))) (cv 1)))
      (css_cons (cs_put (cv 0) ce_int (ce_bin ops_div (ce_ix (cv 0) ce_int (fun _ _ => rfl)) (cv 1)))
      (css_one (cs_ret (cv 3))))) css_nil)
      (css_cons (cs_put (cv 0) ce_int (ce_bin ops_add (ce_ix (cv 0) ce_int (fun _ _ => rfl)) ce_int))
      (css_cons (cs_set (i := 4) sc__law_draw.nd rfl (by first | exact Or.inl rfl | exact Or.inr rfl) (ce_bin ops_mod (ce_callTy cs_int (by rfl) T.b_int PyProof.Rows.boot_int (ce_bin ops_mul (ce_callTy cs_int (by rfl) T.b_int PyProof.Rows.boot_int (ce_bin ops_add (ce_ix (cv 0) ce_int (fun _ _ => rfl)) (ce_bin ops_mul ce_int (ce_ix (cv 0) ce_int (fun _ _ => rfl))))) ce_int)) ce_int))
      (css_cons (cs_set (i := 4) sc__law_draw.nd rfl (by first | exact Or.inl rfl | exact Or.inr rfl) (ce_bin ops_mod (ce_callTy cs_int (by rfl) T.b_int PyProof.Rows.boot_int (ce_bin ops_mul (cv 4) (ce_bin ops_add (ce_bin ops_div (cv 4) ce_int) ce_int))) ce_int))
      (css_cons (cs_set (i := 4) sc__law_draw.nd rfl (by first | exact Or.inl rfl | exact Or.inr rfl) (ce_bin ops_mod (ce_callTy cs_int (by rfl) T.b_int PyProof.Rows.boot_int (ce_bin ops_mul (cv 4) (ce_bin ops_add (ce_bin ops_div (cv 4) ce_int) ce_int))) ce_int))
      (css_one (cs_ret (ce_bin ops_mod (ce_callTy cs_int (by rfl) T.b_int PyProof.Rows.boot_int (ce_bin ops_div (cv 4) ce_int)) (cv 1))))))))))
theorem sc__law_some : FnScope ["hand", "things"] ["hand", "things"] (defScope s__law_some) := ⟨rfl, rfl, rfl, by decide +kernel, rfl, by decide +kernel, by decide +kernel⟩
theorem ok__law_some (T : Top K mg) : OkF P w K mg base 2 "_law_some" ["hand", "things"] f__law_some :=
  okf T.a__law_some sc__law_some fun f cdv A outer s H E B W hr tk =>
    (css_one (cs_ret (ce_ix (cv 1) (cc (ok__law_draw T) (hr.mono (by decide)) tk (ca_cons (cv 0) (ca_cons (ce_callB cs_len (by rfl) T.b_len PySem.boot_len (cv 1)) ca_nil))) (fun _ _ => rfl))))
theorem sc__law_is : FnScope ["told", "due", "k", "key"] ["told", "due"] (defScope s__law_is) := ⟨rfl, rfl, rfl, by decide +kernel, rfl, by decide +kernel, by decide +kernel⟩
theorem ok__law_is (T : Top K mg) : ∀ n : Nat, OkF P w K mg base (0 + n) "_law_is" ["told", "due"] (f__law_is n)
  | 0 => ok_stuck T.a__law_is
  | n + 1 => by
    have IH := ok__law_is T n
    exact okf T.a__law_is sc__law_is fun f cdv A outer s H E B W hr tk =>
      (css_cons (cs_if (ct_val (ce_isi2 (c := "tuple") (c' := "list") (by decide) (by decide) (by rfl) T.b_isinstance (by rfl) T.b_tuple (by decide +kernel) (by rfl) T.b_list (by decide +kernel) (cv 1))) (css_cons (cs_if (ct_w (ct_or (ct_cmp (cmp_ne (hu90 hr)) (ce_isi (c := "tuple") (by decide) (by rfl) T.b_isinstance (by rfl) T.b_tuple (by decide +kernel) (cv 0)) (ce_isi (c := "tuple") (by decide) (by rfl) T.b_isinstance (by rfl) T.b_tuple (by decide +kernel) (cv 1)) (nomark _)) (ct_or1 (ct_cmp (cmp_ne (hu90 hr)) (ce_isi (c := "list") (by decide) (by rfl) T.b_isinstance (by rfl) T.b_list (by decide +kernel) (cv 0)) (ce_isi (c := "list") (by decide) (by rfl) T.b_isinstance (by rfl) T.b_list (by decide +kernel) (cv 1)) (nomark _))))) (css_one (cs_ret ce_bl)) css_nil)
      (css_one (cs_ret (ce_and (ce_cmp (cmp_eq (hu90 hr)) (ce_callB cs_len (by rfl) T.b_len PySem.boot_len (cv 0)) (ce_callB cs_len (by rfl) T.b_len PySem.boot_len (cv 1)) (nomark _)) (ce_one (ce_callB (cs_all rfl) (by rfl) T.b_all PyProof.Rows.boot_all (ce_l (cl_comp (own := [(("k" : Str), 2)]) rfl sc__law_is.nd (ci_range (by rfl) T.b_range (ce_callB cs_len (by rfl) T.b_len PySem.boot_len (cv 1))) (blkOk_by (own := [(("k" : Str), 2)]) (by dsimp only [cxOf, envOfC, Cx.blk, compEnvC, relabel, Env.blockKind, Env.kindOf]; first | decide +kernel | rfl)) (fun _ _ _ _ _ => (cg_var sc__law_is.nd (i := 2) rfl (by first | exact Or.inl rfl | exact Or.inr rfl))) (fun _ _ _ _ _ => cts_nil) (fun _ _ _ _ _ _ => (cc IH (hr.mono (by first | omega | (simp; done) | (simp; omega))) takes0' (ca_cons (ce_ix (cv 0) (cv 2) (fun _ _ => rfl)) (ca_cons (ce_ix (cv 1) (cv 2) (fun _ _ => rfl)) ca_nil)))) (by decide))))))))) css_nil)
      (css_cons (cs_if (ct_val (ce_isi (c := "dict") (by decide) (by rfl) T.b_isinstance (by rfl) T.b_dict (by decide +kernel) (cv 1))) (css_one (cs_ret (ce_and (ce_isi (c := "dict") (by decide) (by rfl) T.b_isinstance (by rfl) T.b_dict (by decide +kernel) (cv 0)) (ce_and (ce_cmp (cmp_eq (hu90 hr)) (cv 0) (cv 1) (nomark _)) (ce_one (ce_callB (cs_all rfl) (by rfl) T.b_all PyProof.Rows.boot_all (ce_l (cl_comp (own := [(("key" : Str), 3)]) rfl sc__law_is.nd (ci_of (cv 1)) (blkOk_by (own := [(("key" : Str), 3)]) (by dsimp only [cxOf, envOfC, Cx.blk, compEnvC, relabel, Env.blockKind, Env.kindOf]; first | decide +kernel | rfl)) (fun _ _ _ _ _ => (cg_var sc__law_is.nd (i := 3) rfl (by first | exact Or.inl rfl | exact Or.inr rfl))) (fun _ _ _ _ _ => cts_nil) (fun _ _ _ _ _ _ => (cc IH (hr.mono (by first | omega | (simp; done) | (simp; omega))) takes0' (ca_cons (ce_ix (cv 0) (cv 3) (fun _ _ => rfl)) (ca_cons (ce_ix (cv 1) (cv 3) (fun _ _ => rfl)) ca_nil)))) (by decide))))))))) css_nil)
      (css_one (cs_ret (ce_and (ce_cmp (cmp_eq (hu90 hr)) (ce_isi (c := "bool") (by decide) (by rfl) T.b_isinstance (by rfl) T.b_bool (by decide +kernel) (cv 0)) (ce_isi (c := "bool") (by decide) (by rfl) T.b_isinstance (by rfl) T.b_bool (by decide +kernel) (cv 1)) (nomark _)) (ce_one (ce_cmp (cmp_eq (hu90 hr)) (cv 0) (cv 1) (nomark _))))))))
theorem sc__law_flag : FnScope ["told", "due"] ["told", "due"] (defScope s__law_flag) := ⟨rfl, rfl, rfl, by decide +kernel, rfl, by decide +kernel, by decide +kernel⟩
theorem ok__law_flag (T : Top K mg) : OkF P w K mg base 1 "_law_flag" ["told", "due"] f__law_flag :=
  okf T.a__law_flag sc__law_flag fun f cdv A outer s H E B W hr tk =>
    (css_one (cs_ret (ce_and (ce_isi (c := "bool") (by decide) (by rfl) T.b_isinstance (by rfl) T.b_bool (by decide +kernel) (cv 0)) (ce_one (ce_cmp (cmp_eq (hu90 hr)) (cv 0) (cv 1) (nomark _))))))
theorem sc__law_web : FnScope ["hand", "many", "share", "found", "person", "other"] ["hand", "many", "share"] (defScope s__law_web) := ⟨rfl, rfl, rfl, by decide +kernel, rfl, by decide +kernel, by decide +kernel⟩
theorem ok__law_web (T : Top K mg) : OkF P w K mg base 2 "_law_web" ["hand", "many", "share"] f__law_web :=
  okf T.a__law_web sc__law_web fun f cdv A outer s H E B W hr tk =>
    (css_cons (cs_set (i := 3) sc__law_web.nd rfl (by first | exact Or.inl rfl | exact Or.inr rfl) (ce_new (cl_disp ca_nil)))
      (css_cons (cs_for (passes_of rfl) rfl (ci_range (by rfl) T.b_range (cv 1)) (cg_var sc__law_web.nd (i := 4) rfl (by first | exact Or.inl rfl | exact Or.inr rfl)) (css_one (cs_app (cv 3) (ce_callTy cs_tup (by rfl) T.b_tuple PyProof.Rows.boot_tuple (ce_l (cl_comp (own := [(("other" : Str), 5)]) rfl sc__law_web.nd (ci_range (by rfl) T.b_range (cv 1)) (blkOk_by (own := [(("other" : Str), 5)]) (by dsimp only [cxOf, envOfC, Cx.blk, compEnvC, relabel, Env.blockKind, Env.kindOf]; first | decide +kernel | rfl)) (fun _ _ _ _ _ => (cg_var sc__law_web.nd (i := 5) rfl (by first | exact Or.inl rfl | exact Or.inr rfl))) (fun _ _ _ _ _ => (cts_one fun _ => (ct_w (ct_and (ct_cmp (cmp_ne (hu90 hr)) (cv 5) (cv 4) (nomark _)) (ct_and1 (ct_cmp cmp_lt (cc (ok__law_draw T) (hr.mono (by decide)) takes0' (ca_cons (cv 0) (ca_cons ce_int ca_nil))) (cv 2) (nomark _))))))) (fun _ _ _ _ _ _ => (cv 5)) (by decide)))))))
      (css_one (cs_ret (ce_callTy cs_tup (by rfl) T.b_tuple PyProof.Rows.boot_tuple (cv 3))))))
theorem sc__law_drawn_web : FnScope ["hand", "most", "many"] ["hand", "most"] (defScope s__law_drawn_web) := ⟨rfl, rfl, rfl, by decide +kernel, rfl, by decide +kernel, by decide +kernel⟩
theorem ok__law_drawn_web (T : Top K mg) : OkF P w K mg base 3 "_law_drawn_web" ["hand", "most"] f__law_drawn_web :=
  okf T.a__law_drawn_web sc__law_drawn_web fun f cdv A outer s H E B W hr tk =>
    (css_cons (cs_set (i := 2) sc__law_drawn_web.nd rfl (by first | exact Or.inl rfl | exact Or.inr rfl) (ce_bin ops_add ce_int (cc (ok__law_draw T) (hr.mono (by decide)) tk (ca_cons (cv 0) (ca_cons (cv 1) ca_nil)))))
      (css_one (cs_ret (cc (ok__law_web T) (hr.mono (by decide)) tk (ca_cons (cv 0) (ca_cons (cv 2) (ca_cons (cc (ok__law_some T) (hr.mono (by decide)) tk (ca_cons (cv 0) (ca_cons (ce_l (cl_disp (ca_cons ce_int (ca_cons ce_int (ca_cons ce_int (ca_cons ce_int (ca_cons ce_int (ca_cons ce_int (ca_cons ce_int (ca_cons ce_int ca_nil)))))))))) ca_nil))) ca_nil)))))))
theorem sc__law_reached : FnScope ["web", "gone", "person", "found", "at", "other"] ["web", "gone", "person"] (defScope s__law_reached) := ⟨rfl, rfl, rfl, by decide +kernel, rfl, by decide +kernel, by decide +kernel⟩
theorem ok__law_reached (T : Top K mg) : OkF P w K mg base 1 "_law_reached" ["web", "gone", "person"] f__law_reached :=
  okf T.a__law_reached sc__law_reached fun f cdv A outer s H E B W hr tk =>
    (css_cons (cs_set (i := 3) sc__law_reached.nd rfl (by first | exact Or.inl rfl | exact Or.inr rfl) (ce_new (cl_disp (ca_cons (cv 2) ca_nil))))
      (css_cons (cs_set (i := 4) sc__law_reached.nd rfl (by first | exact Or.inl rfl | exact Or.inr rfl) ce_int)
      (css_cons (cs_while fuel (passes_of rfl) (ct_cmp cmp_lt (cv 4) (ce_callB cs_len (by rfl) T.b_len PySem.boot_len (cv 3)) (nomark _)) (css_cons (cs_ext (cv 3) (ce_l (cl_comp (own := [(("other" : Str), 5)]) rfl sc__law_reached.nd (ci_of (ce_ix (cv 0) (ce_ix (cv 3) (cv 4) (fun _ _ => rfl)) (fun _ _ => rfl))) (blkOk_by (own := [(("other" : Str), 5)]) (by dsimp only [cxOf, envOfC, Cx.blk, compEnvC, relabel, Env.blockKind, Env.kindOf]; first | decide +kernel | rfl)) (fun _ _ _ _ _ => (cg_var sc__law_reached.nd (i := 5) rfl (by first | exact Or.inl rfl | exact Or.inr rfl))) (fun _ _ _ _ _ => (cts_one fun _ => (ct_cmp (cmp_notIn (hu90 hr)) (cv 5) (ce_bin ops_add (cv 1) (ce_callTy cs_tup (by rfl) T.b_tuple PyProof.Rows.boot_tuple (cv 3))) (by rfl)))) (fun _ _ _ _ _ _ => (cv 5)) (by decide))))
      (css_one (cs_set (i := 4) sc__law_reached.nd rfl (by first | exact Or.inl rfl | exact Or.inr rfl) (ce_bin ops_add (cv 4) ce_int)))))
      (css_one (cs_ret (cv 3))))))
theorem sc__law_holds : FnScope ["web", "gone", "left", "person"] ["web", "gone"] (defScope s__law_holds) := ⟨rfl, rfl, rfl, by decide +kernel, rfl, by decide +kernel, by decide +kernel⟩
theorem ok__law_holds (T : Top K mg) : OkF P w K mg base 2 "_law_holds" ["web", "gone"] f__law_holds :=
  okf T.a__law_holds sc__law_holds fun f cdv A outer s H E B W hr tk =>
    (css_cons (cs_set (i := 2) sc__law_holds.nd rfl (by first | exact Or.inl rfl | exact Or.inr rfl) (ce_l (cl_comp (own := [(("person" : Str), 3)]) rfl sc__law_holds.nd (ci_range (by rfl) T.b_range (ce_callB cs_len (by rfl) T.b_len PySem.boot_len (cv 0))) (blkOk_by (own := [(("person" : Str), 3)]) (by dsimp only [cxOf, envOfC, Cx.blk, compEnvC, relabel, Env.blockKind, Env.kindOf]; first | decide +kernel | rfl)) (fun _ _ _ _ _ => (cg_var sc__law_holds.nd (i := 3) rfl (by first | exact Or.inl rfl | exact Or.inr rfl))) (fun _ _ _ _ _ => (cts_one fun _ => (ct_cmp (cmp_notIn (hu90 hr)) (cv 3) (cv 1) (by rfl)))) (fun _ _ _ _ _ _ => (cv 3)) (by decide))))
      (css_one (cs_ret (ce_callB (cs_all rfl) (by rfl) T.b_all PyProof.Rows.boot_all (ce_l (cl_comp (own := [(("person" : Str), 3)]) rfl sc__law_holds.nd (ci_of (cv 2)) (blkOk_by (own := [(("person" : Str), 3)]) (by dsimp only [cxOf, envOfC, Cx.blk, compEnvC, relabel, Env.blockKind, Env.kindOf]; first | decide +kernel | rfl)) (fun _ _ _ _ _ => (cg_var sc__law_holds.nd (i := 3) rfl (by first | exact Or.inl rfl | exact Or.inr rfl))) (fun _ _ _ _ _ => cts_nil) (fun _ _ _ _ _ _ => (ce_cmp (cmp_eq (hu90 hr)) (ce_callB cs_len (by rfl) T.b_len PySem.boot_len (cc (ok__law_reached T) (hr.mono (by decide)) takes0' (ca_cons (cv 0) (ca_cons (cv 1) (ca_cons (cv 3) ca_nil))))) (ce_callB cs_len (by rfl) T.b_len PySem.boot_len (cv 2)) (nomark _))) (by decide)))))))
theorem sc__law_lots : FnScope ["many", "found", "person", "lot", "pair"] ["many"] (defScope s__law_lots) := ⟨rfl, rfl, rfl, by decide +kernel, rfl, by decide +kernel, by decide +kernel⟩
theorem ok__law_lots (T : Top K mg) : OkF P w K mg base 1 "_law_lots" ["many"] f__law_lots :=
  okf T.a__law_lots sc__law_lots fun f cdv A outer s H E B W hr tk =>
    (css_cons (cs_set (i := 1) sc__law_lots.nd rfl (by first | exact Or.inl rfl | exact Or.inr rfl) (ce_l (cl_disp (ca_cons (ce_tup ca_nil) ca_nil))))
      (css_cons (cs_for (passes_of rfl) rfl (ci_range (by rfl) T.b_range (cv 0)) (cg_var sc__law_lots.nd (i := 2) rfl (by first | exact Or.inl rfl | exact Or.inr rfl)) (css_one (cs_set (i := 1) sc__law_lots.nd rfl (by first | exact Or.inl rfl | exact Or.inr rfl) (ce_l (cl_add (cv 1) (ce_l (cl_comp (own := [(("lot" : Str), 3)]) rfl sc__law_lots.nd (ci_of (cv 1)) (blkOk_by (own := [(("lot" : Str), 3)]) (by dsimp only [cxOf, envOfC, Cx.blk, compEnvC, relabel, Env.blockKind, Env.kindOf]; first | decide +kernel | rfl)) (fun _ _ _ _ _ => (cg_var sc__law_lots.nd (i := 3) rfl (by first | exact Or.inl rfl | exact Or.inr rfl))) (fun _ _ _ _ _ => cts_nil) (fun _ _ _ _ _ _ => (ce_bin ops_add (cv 3) (ce_tup (ca_cons (cv 2) ca_nil)))) (by decide))))))))
      (css_one (cs_ret (ce_l (cl_comp (own := [(("pair" : Str), 4)]) rfl sc__law_lots.nd (ci_of (ce_l (cl_sorted (hu90 hr) (by rfl) T.b_sorted (ce_l (cl_comp (own := [(("lot" : Str), 3)]) rfl sc__law_lots.nd (ci_of (cv 1)) (blkOk_by (own := [(("lot" : Str), 3)]) (by dsimp only [cxOf, envOfC, Cx.blk, compEnvC, relabel, Env.blockKind, Env.kindOf]; first | decide +kernel | rfl)) (fun _ _ _ _ _ => (cg_var sc__law_lots.nd (i := 3) rfl (by first | exact Or.inl rfl | exact Or.inr rfl))) (fun _ _ _ _ _ => cts_nil) (fun _ _ _ _ _ _ => (ce_tup (ca_cons (ce_callB cs_len (by rfl) T.b_len PySem.boot_len (cv 3)) (ca_cons (cv 3) ca_nil)))) (by decide)))))) (blkOk_by (own := [(("pair" : Str), 4)]) (by dsimp only [cxOf, envOfC, Cx.blk, compEnvC, relabel, Env.blockKind, Env.kindOf]; first | decide +kernel | rfl)) (fun _ _ _ _ _ => (cg_var sc__law_lots.nd (i := 4) rfl (by first | exact Or.inl rfl | exact Or.inr rfl))) (fun _ _ _ _ _ => cts_nil) (fun _ _ _ _ _ _ => (ce_ix (cv 4) ce_int (fun _ _ => rfl))) (by decide)))))))
theorem sc__law_weakest : FnScope ["web", "lot"] ["web"] (defScope s__law_weakest) := ⟨rfl, rfl, rfl, by decide +kernel, rfl, by decide +kernel, by decide +kernel⟩
theorem ok__law_weakest (T : Top K mg) : OkF P w K mg base 3 "_law_weakest" ["web"] f__law_weakest :=
  okf T.a__law_weakest sc__law_weakest fun f cdv A outer s H E B W hr tk =>
    (css_cons (cs_for (passes_of rfl) rfl (ci_of (cc (ok__law_lots T) (hr.mono (by decide)) tk (ca_cons (ce_callB cs_len (by rfl) T.b_len PySem.boot_len (cv 0)) ca_nil))) (cg_var sc__law_weakest.nd (i := 1) rfl (by first | exact Or.inl rfl | exact Or.inr rfl)) (css_one (cs_if (ct_not (ct_val (cc (ok__law_holds T) (hr.mono (by decide)) tk (ca_cons (cv 0) (ca_cons (cv 1) ca_nil))))) (css_one (cs_ret (cv 1))) css_nil)))
      (css_one (cs_ret ce_non)))
theorem sc_law : FnScope ["script", "hand", "turn", "web", "lot", "many", "due"] ["script"] (defScope s_law) := ⟨rfl, rfl, rfl, by decide +kernel, rfl, by decide +kernel, by decide +kernel⟩
theorem fn_law (T : Top K mg) {fa : Addr} {fd : FuncData} (h1 : Fun K "law" "law" s_law fa fd) : FnOk P w K mg base (L2.CX P w) 10 fa fd ["script"] (spF K mg 1 f_law) :=
  okl h1 sc_law fun f cdv A outer s H E B W hr tk =>
    (css_cons (cs_set (i := 1) sc_law.nd rfl (by first | exact Or.inl rfl | exact Or.inr rfl) (cc (ok__law_hand T) (hr.mono (by decide)) tk (ca_cons (cv 0) ca_nil)))
      (css_cons (cs_for (passes_of rfl) rfl (ci_range (by rfl) T.b_range ce_int) (cg_var sc_law.nd (i := 2) rfl (by first | exact Or.inl rfl | exact Or.inr rfl)) (css_cons (cs_set (i := 3) sc_law.nd rfl (by first | exact Or.inl rfl | exact Or.inr rfl) (cc (ok__law_drawn_web T) (hr.mono (by decide)) tk (ca_cons (cv 1) (ca_cons (ce_if (ct_w (ct_and (ct_cmp (cmp_eq (hu90 hr)) (cv 2) ce_int (nomark _)) (ct_and1 (ct_cmp (cmp_eq (hu90 hr)) (cc (ok__law_draw T) (hr.mono (by decide)) tk (ca_cons (cv 1) (ca_cons ce_int ca_nil))) ce_int (nomark _))))) ce_int ce_int) ca_nil))))
      (css_cons (cs_set (i := 4) sc_law.nd rfl (by first | exact Or.inl rfl | exact Or.inr rfl) (cc (ok__law_weakest T) (hr.mono (by decide)) tk (ca_cons (cv 3) ca_nil)))
      (css_cons (cs_for (passes_of rfl) rfl (ci_range (by rfl) T.b_range ce_int) (cg_var sc_law.nd (i := 5) rfl (by first | exact Or.inl rfl | exact Or.inr rfl)) (css_cons (cs_set (i := 6) sc_law.nd rfl (by first | exact Or.inl rfl | exact Or.inr rfl) (ce_if (ct_w (ct_or (ct_cmp cmp_isN (cv 4) ce_non (nomark _)) (ct_or1 (ct_cmp cmp_gt (ce_callB cs_len (by rfl) T.b_len PySem.boot_len (cv 4)) (cv 5) (nomark _))))) ce_non (cv 4)))
      (css_one (cs_if (ct_w (ct_or (ct_not (ct_val (cc (ok__law_is T 8) (hr.mono (by decide)) tk (ca_cons (ce_l (cl_disp (ca_cons (cc (ok_weak T) (hr.mono (by decide)) tk (ca_cons (cv 3) (ca_cons (cv 5) ca_nil))) ca_nil))) (ca_cons (ce_l (cl_disp (ca_cons (cv 6) ca_nil))) ca_nil))))) (ct_or1 (ct_not (ct_val (cc (ok__law_flag T) (hr.mono (by decide)) tk (ca_cons (cc (ok_firm T) (hr.mono (by decide)) tk (ca_cons (cv 3) (ca_cons (cv 5) ca_nil))) (ca_cons (ce_cmp cmp_isN (cv 6) ce_non (nomark _)) ca_nil)))))))) (css_one (cs_ret ce_bl)) css_nil))))
      (css_cons (cs_set (i := 6) sc_law.nd rfl (by first | exact Or.inl rfl | exact Or.inr rfl) (ce_if (ct_cmp cmp_isN (cv 4) ce_non (nomark _)) (ce_callB cs_len (by rfl) T.b_len PySem.boot_len (cv 3)) (ce_bin ops_sub (ce_callB cs_len (by rfl) T.b_len PySem.boot_len (cv 4)) ce_int)))
      (css_one (cs_if (ct_w (ct_or (ct_not (ct_val (cc (ok__law_is T 8) (hr.mono (by decide)) tk (ca_cons (cc (ok_greatest_firm T) (hr.mono (by decide)) tk (ca_cons (cv 3) ca_nil)) (ca_cons (cv 6) ca_nil))))) (ct_or1 (ct_cmp (cmp_ne (hu90 hr)) (cc (ok_greatest_firm T) (hr.mono (by decide)) tk (ca_cons (cv 3) ca_nil)) (cv 6) (nomark _))))) (css_one (cs_ret ce_bl)) css_nil)))))))
      (css_one (cs_ret ce_bl))))
end
end K45

set_option Elab.async false
set_option linter.all false
set_option autoImplicit false
set_option maxRecDepth 100000
/-! what the combinators come to, in plain words -/
namespace Mi
open PySem

abbrev dN (n : Nat) : D := .int (n : Int)
def nsD (xs : List Nat) : List D := xs.map dN
abbrev nums (xs : List Nat) : D := .tup (nsD xs)
def pN (n : Nat) : PyData := .int (n : Int)

theorem nsD_len (xs : List Nat) : (nsD xs).length = xs.length := List.length_map ..
theorem pys_nsD (ρ : Nat → Option PyData) : ∀ xs : List Nat, pys ρ (nsD xs) = some (xs.map pN)
  | [] => rfl
  | x :: xs => by
    show (match py ρ (.int (x : Int)) with | some y => (match pys ρ (nsD xs) with | some ys => some (y :: ys) | none => none) | none => none) = _
    rw [pys_nsD ρ xs]; rfl
theorem toPy_int (st : Store) (i : Int) : toPy st (.int i) = some (.int i) := rfl
theorem toPy_bl (st : Store) (b : Bool) : toPy st (.bl b) = some (.bool b) := rfl
theorem toPy_non (st : Store) : toPy st .non = some .none := rfl
theorem toPy_nums (st : Store) (xs : List Nat) : toPy st (nums xs) = some (.tuple (xs.map pN)) := by
  unfold toPy; rw [py]; rw [pys_nsD]
theorem toPys_nsD (st : Store) (xs : List Nat) : toPys st (nsD xs) = some (xs.map pN) := pys_nsD _ xs
theorem depthAll_pN : ∀ xs : List Nat, PyData.depthAll (xs.map pN) = 0
  | [] => rfl
  | x :: xs => by
    show max 0 (PyData.depthAll (xs.map pN)) = 0
    rw [depthAll_pN xs]; rfl
theorem eqvAll_pN : ∀ xs ys : List Nat, PyData.eqvAll (xs.map pN) (ys.map pN) = decide (xs = ys)
  | [], [] => rfl
  | [], _ :: _ => rfl
  | _ :: _, [] => rfl
  | x :: xs, y :: ys => by
    show (PyData.eqv (.int (x : Int)) (.int (y : Int)) && PyData.eqvAll (xs.map pN) (ys.map pN)) = _
    rw [eqvAll_pN xs ys]
    show (((x : Int) == (y : Int)) && decide (xs = ys)) = _
    by_cases h : x = y <;> by_cases h2 : xs = ys <;> simp [h, h2]
    · intro z; exact absurd (Int.ofNat.inj z) h
theorem any_pN (n : Nat) : ∀ xs : List Nat, ((xs.map pN).any fun y => PyData.eqv y (.int (n : Int))) = decide (n ∈ xs)
  | [] => rfl
  | x :: xs => by
    rw [List.map_cons, List.any_cons, any_pN n xs]
    show (((x : Int) == (n : Int)) || decide (n ∈ xs)) = _
    by_cases h : x = n
    · subst h; simp
    · have : ¬ ((x : Int) = (n : Int)) := fun z => h (Int.ofNat.inj z)
      have h' : ¬ n = x := fun z => h z.symm
      simp [this, h']
theorem dEq_int (st : Store) (i j : Int) : dEq st (.int i) (.int j) = some (decide (i = j)) := by
  unfold dEq
  rw [toPy_int, toPy_int]
  show (if min (PyData.int i).depth (PyData.int j).depth ≤ 64 then some (i == j) else none) = _
  rw [if_pos (by show min 0 0 ≤ 64; decide)]; rfl
theorem dEq_bl (st : Store) (i j : Bool) : dEq st (.bl i) (.bl j) = some (decide (i = j)) := by
  cases i <;> cases j <;> rfl
theorem dEq_nums (st : Store) (xs ys : List Nat) : dEq st (nums xs) (nums ys) = some (decide (xs = ys)) := by
  unfold dEq
  simp only [toPy_nums]
  have d : ∀ xs : List Nat, (PyData.tuple (xs.map pN)).depth = 1 := fun xs => by
    show PyData.depthAll (xs.map pN) + 1 = 1
    rw [depthAll_pN]
  show (if min (PyData.tuple (xs.map pN)).depth (PyData.tuple (ys.map pN)).depth ≤ 64 then some (PyData.eqvAll (xs.map pN) (ys.map pN)) else none) = _
  rw [if_pos (by rw [d, d]; decide), eqvAll_pN]
theorem dNe_int (st : Store) (i j : Int) : dNe st (.int i) (.int j) = some (decide (i ≠ j)) := by
  unfold dNe; rw [dEq_int]; simp
theorem dNe_bl (st : Store) (i j : Bool) : dNe st (.bl i) (.bl j) = some (decide (i ≠ j)) := by
  unfold dNe; rw [dEq_bl]; simp
theorem dIn_nsD (st : Store) (n : Nat) (c : D) (xs : List Nat) (h : seqOf st c = some (nsD xs)) : dIn st (dN n) c = some (decide (n ∈ xs)) := by
  unfold dIn
  rw [toPy_int, h]
  dsimp only
  rw [toPys_nsD]
  dsimp only
  rw [depthAll_pN, if_pos (by show min 0 _ ≤ 64; omega), any_pN]
theorem dNotIn_nsD (st : Store) (n : Nat) (c : D) (xs : List Nat) (h : seqOf st c = some (nsD xs)) : dNotIn st (dN n) c = some (decide (n ∉ xs)) := by
  unfold dNotIn; rw [dIn_nsD st n c xs h]; simp

/-! ### steps -/
theorem bnd_ok {α β : Type} {m : M α} {f : α → M β} {st st1 : Store} {a : α} (h : m st = some (.ok a st1)) : bnd m f st = f a st1 := by unfold bnd; rw [h]
theorem bndN_ok {α β : Type} {m : M α} {f : α → M β} {st st1 : Store} {a : α} (h : m st = some (.ok a st1)) : bndN m f st = f a st1 := by unfold bndN; rw [h]
theorem sBnd_ok {α : Type} {m : M α} {σ : Env} {f : α → Store → Option RS} {st st1 : Store} {a : α} (h : m st = some (.ok a st1)) : sBnd m σ f st = f a st1 := by unfold sBnd; rw [h]
theorem seq_nx {a b : S} {σ σ1 : Env} {st st1 : Store} (h : a σ st = some (.nx σ1 st1)) : sSeq a b σ st = b σ1 st1 := by unfold sSeq; rw [h]
theorem seq_rt {a b : S} {σ : Env} {d : D} {st st1 : Store} (h : a σ st = some (.rt d st1)) : sSeq a b σ st = some (.rt d st1) := by unfold sSeq; rw [h]
theorem runB_rt {n : Nat} {b : S} {as : List D} {d : D} {st st1 : Store} (h : b (start n as) st = some (.rt d st1)) : runB n b as st = some (.ok d st1) := by unfold runB; rw [h]
theorem runB_nx {n : Nat} {b : S} {as : List D} {σ : Env} {st st1 : Store} (h : b (start n as) st = some (.nx σ st1)) : runB n b as st = some (.ok .non st1) := by unfold runB; rw [h]
def isLoc : D → Bool
  | .loc _ => true
  | _ => false
abbrev Good (st : Store) : Prop := okSt st.length st = true
theorem thaw_id {n : Nat} {st : Store} {d : D} (h : isLoc d = false) : thaw n st d = d := by cases d <;> first | rfl | cases h
/-- a function that keeps the store -/
theorem scp_same {m : M D} {st : Store} {d : D} (h : m st = some (.ok d st)) (hl : isLoc d = false) (hb : below st.length d = true) (g : Good st) : scp m st = some (.ok d st) := by
  unfold scp; rw [h]
  show (if below st.length (thaw st.length st d) && okSt st.length (st.take st.length) then some (R.ok (thaw st.length st d) (st.take st.length)) else none) = _
  rw [thaw_id hl, List.take_length, hb, g]; rfl
/-- .. that only changes what was there -/
theorem scp_keep {m : M D} {st st1 : Store} {d : D} (h : m st = some (.ok d st1)) (hl : isLoc d = false) (hn : st1.length = st.length) (hb : below st.length d = true) (g : Good st1) : scp m st = some (.ok d st1) := by
  unfold scp; rw [h]
  show (if below st.length (thaw st.length st1 d) && okSt st.length (st1.take st.length) then some (R.ok (thaw st.length st1 d) (st1.take st.length)) else none) = _
  rw [thaw_id hl, ← hn, List.take_length, hn, hb, ← hn, g]; rfl
/-- .. that makes lists for itself -/
theorem scp_own {m : M D} {st ext : Store} {d : D} (h : m st = some (.ok d (st ++ ext))) (hl : isLoc d = false) (hb : below st.length d = true) (g : Good st) : scp m st = some (.ok d st) := by
  unfold scp; rw [h]
  show (if below st.length (thaw st.length (st ++ ext) d) && okSt st.length ((st ++ ext).take st.length) then some (R.ok (thaw st.length (st ++ ext) d) ((st ++ ext).take st.length)) else none) = _
  rw [thaw_id hl, List.take_left, hb, g]; rfl
/-- .. and hands one of them back -/
theorem scp_new {m : M D} {st ext : Store} {k : Nat} {ds : List D} (h : m st = some (.ok (.loc (st.length + k)) (st ++ ext))) (he : ext[k]? = some (.lst ds)) (hb : belows st.length ds = true) (g : Good st) : scp m st = some (.ok (.lst ds) st) := by
  unfold scp; rw [h]
  have e : thaw st.length (st ++ ext) (.loc (st.length + k)) = .lst ds := by
    show (if st.length + k < st.length then _ else _) = _
    rw [if_neg (by omega), List.getElem?_append_right (by omega), show st.length + k - st.length = k by omega, he]
  show (if below st.length (thaw st.length (st ++ ext) (.loc (st.length + k))) && okSt st.length ((st ++ ext).take st.length) then some (R.ok (thaw st.length (st ++ ext) (.loc (st.length + k))) ((st ++ ext).take st.length)) else none) = _
  rw [e, List.take_left, g]
  show (if belows st.length ds && true then _ else _) = _
  rw [hb]; rfl

theorem belows_nsD (n : Nat) : ∀ xs : List Nat, belows n (nsD xs) = true
  | [] => rfl
  | x :: xs => by
    show (below n (.int (x : Int)) && belows n (nsD xs)) = true
    rw [belows_nsD n xs]; rfl
theorem belows_map {α : Type} (n : Nat) (f : α → D) (h : ∀ a, below n (f a) = true) : ∀ xs : List α, belows n (xs.map f) = true
  | [] => rfl
  | x :: xs => by
    show (below n (f x) && belows n (xs.map f)) = true
    rw [belows_map n f h xs, h]; rfl
theorem below_nums (n : Nat) (xs : List Nat) : below n (nums xs) = true := belows_nsD n xs

theorem rangeD_nat (a b : Nat) : rangeD a b = nsD ((List.range (b - a)).map (a + ·)) := by
  unfold rangeD nsD
  rw [List.map_map]
  have : ((b : Int) - (a : Int)).toNat = b - a := by omega
  rw [this]
  rfl
theorem rangeD_0 (b : Nat) : rangeD 0 b = nsD (List.range b) := by
  have := rangeD_nat 0 b
  simpa using this
theorem small_nat (n : Nat) (h : n ≤ 1000000) : small62 (n : Int) = true := by
  unfold small62
  simp only [Bool.and_eq_true, decide_eq_true_eq]
  omega

/-! ### comprehensions and loops over lists -/
section
variable {α : Type}
/-- a comprehension whose test and item keep the store -/
theorem compFix_pure {g : G} {t : T} {e : E} {σ : Env} {st : Store} (f : α → D) (s : α → Env) (p : α → Bool) (q : α → D) : ∀ (xs : List α), (∀ x ∈ xs, g (f x) σ = some (s x)) → (∀ x ∈ xs, t (s x) st = some (.ok (p x) st)) → (∀ x ∈ xs, p x = true → e (s x) st = some (.ok (q x) st)) →
    compFix g t e σ (xs.map f) st = some (.ok ((xs.filter p).map q) st)
  | [], _, _, _ => rfl
  | x :: xs, h1, h2, h3 => by
    have ih := compFix_pure f s p q xs (fun y hy => h1 y (List.mem_cons_of_mem _ hy)) (fun y hy => h2 y (List.mem_cons_of_mem _ hy)) (fun y hy => h3 y (List.mem_cons_of_mem _ hy))
    rw [List.map_cons]
    unfold compFix
    rw [h1 x List.mem_cons_self]
    dsimp only
    rw [bndN_ok (h2 x List.mem_cons_self)]
    cases hp : p x with
    | true =>
      rw [if_pos rfl, bndN_ok (h3 x List.mem_cons_self hp), bndN_ok ih, List.filter_cons_of_pos hp]
      rfl
    | false => rw [if_neg Bool.false_ne_true, ih, List.filter_cons_of_neg (by simp [hp])]
theorem lComp_fix {s : I} {g : G} {t : T} {e : E} {vs : List Nat} {σ : Env} {st st1 st2 : Store} {ds rs : List D} (h : s σ st = some (.ok (.fix ds) st1)) (h2 : compFix g t e (wipe σ vs) ds st1 = some (.ok rs st2)) (hl : okLen rs.length = true) : lComp s g t e vs σ st = some (.ok rs st2) := by
  unfold lComp
  rw [bnd_ok h]
  dsimp only
  rw [bnd_ok h2, if_pos hl]
  rfl
theorem filter_yes (xs : List α) : xs.filter (fun _ => true) = xs := List.filter_eq_self.mpr fun _ _ => rfl
/-- a comprehension over a list whose test and item keep the store -/
theorem lComp_pure {s : I} {g : G} {t : T} {e : E} {vs : List Nat} {σ : Env} {st : Store} (f : α → D) (sg : α → Env) (p : α → Bool) (q : α → D) (xs : List α) (h : s σ st = some (.ok (.fix (xs.map f)) st)) (h1 : ∀ x ∈ xs, g (f x) (wipe σ vs) = some (sg x)) (h2 : ∀ x ∈ xs, t (sg x) st = some (.ok (p x) st)) (h3 : ∀ x ∈ xs, p x = true → e (sg x) st = some (.ok (q x) st))
    (hl : okLen xs.length = true) : lComp s g t e vs σ st = some (.ok ((xs.filter p).map q) st) := by
  refine lComp_fix h (compFix_pure f sg p q xs h1 h2 h3) ?_
  unfold okLen at hl ⊢
  rw [List.length_map]
  have := List.length_filter_le p xs
  simp only [decide_eq_true_eq] at hl ⊢
  omega
theorem lComp_all {s : I} {g : G} {e : E} {vs : List Nat} {σ : Env} {st : Store} (f : α → D) (sg : α → Env) (q : α → D) (xs : List α) (h : s σ st = some (.ok (.fix (xs.map f)) st)) (h1 : ∀ x ∈ xs, g (f x) (wipe σ vs) = some (sg x)) (h3 : ∀ x ∈ xs, e (sg x) st = some (.ok (q x) st))
    (hl : okLen xs.length = true) : lComp s g tYes e vs σ st = some (.ok (xs.map q) st) := by
  have := lComp_pure (t := tYes) f sg (fun _ => true) q xs h h1 (fun _ _ => rfl) (fun x hx _ => h3 x hx) hl
  rwa [filter_yes] at this
theorem blsOf_map (p : α → Bool) : ∀ xs : List α, blsOf (xs.map fun x => D.bl (p x)) = some (xs.map p)
  | [] => rfl
  | x :: xs => by
    show (match blsOf (xs.map fun x => D.bl (p x)) with | some bs => some (p x :: bs) | none => none) = _
    rw [blsOf_map p xs]; rfl
theorem gAll_map (st : Store) (p : α → Bool) (xs : List α) : gAll st (.lst (xs.map fun x => D.bl (p x))) = some (.bl (xs.all p)) := by
  show (match blsOf (xs.map fun x => D.bl (p x)) with | some bs => some (D.bl (bs.all id)) | none => none) = _
  rw [blsOf_map]
  simp [List.all_map]
theorem forFix_ind {g : G} {b : S} (f : α → D) (I : List α → Env → Store → Prop) : ∀ (xs pre : List α) (σ : Env) (st : Store), (∀ (p : List α) (x : α) (q : List α) (σ : Env) (st : Store), p ++ x :: q = pre ++ xs → I p σ st → ∃ σ1 σ2 st2, g (f x) σ = some σ1 ∧ b σ1 st = some (.nx σ2 st2) ∧ I (p ++ [x]) σ2 st2) → I pre σ st →
    ∃ σ' st', forFix g b (xs.map f) σ st = some (.nx σ' st') ∧ I (pre ++ xs) σ' st'
  | [], pre, σ, st, _, h => ⟨σ, st, rfl, by rwa [List.append_nil]⟩
  | x :: xs, pre, σ, st, hs, h => by
    obtain ⟨σ1, σ2, st2, e1, e2, h2⟩ := hs pre x xs σ st rfl h
    obtain ⟨σ', st', e3, h3⟩ := forFix_ind f I xs (pre ++ [x]) σ2 st2 (fun p y q σ st e => hs p y q σ st (by rw [e, List.append_assoc]; rfl)) h2
    refine ⟨σ', st', ?_, by rwa [List.append_assoc] at h3⟩
    rw [List.map_cons]
    unfold forFix
    rw [e1]
    dsimp only
    rw [e2]
    exact e3
end
end Mi

set_option Elab.async false
set_option linter.all false
set_option autoImplicit false
set_option maxRecDepth 100000
/-! the combinators, as rules of simp -/
namespace Mi
open PySem
section
variable {α β : Type} {a b c o i : E} {es : EL} {t u : T} {σ : Env} {st : Store}
@[simp] theorem x_ret (x : α) : ret x st = some (.ok x st) := (rfl)
@[simp] theorem x_stuck : (stuck : M α) st = none := (rfl)
@[simp] theorem x_bnd (m : M α) (f : α → M β) : bnd m f st = (match m st with | some (.ok x s1) => f x s1 | some (.ex x s1) => some (.ex x s1) | none => none) := (rfl)
@[simp] theorem x_bndN (m : M α) (f : α → M β) : bndN m f st = (match m st with | some (.ok x s1) => f x s1 | _ => none) := (rfl)
@[simp] theorem x_need_some (x : α) : need (some x) st = some (.ok x st) := (rfl)
@[simp] theorem x_need (x : Option α) : need x st = (match x with | some a => some (.ok a st) | none => none) := (rfl)
@[simp] theorem x_look (f : Store → Option α) : look f st = (match f st with | some a => some (.ok a st) | none => none) := (rfl)
@[simp] theorem x_var (n : Nat) : eVar n σ st = (match σ[n]? with | some (some d) => some (.ok d st) | _ => none) := by
  unfold eVar need
  rcases σ[n]? with _ | (_ | _) <;> rfl
@[simp] theorem x_C (d : D) : eC d σ st = some (.ok d st) := (rfl)
@[simp] theorem x_nil : eNil σ st = some (.ok [] st) := (rfl)
@[simp] theorem x_cons : eCons a es σ st = bnd (a σ) (fun d => bnd (es σ) fun ds => ret (d :: ds)) st := (rfl)
@[simp] theorem x_tup : eTup es σ st = bnd (es σ) (fun ds => if okLen ds.length then ret (.tup ds) else stuck) st := (rfl)
@[simp] theorem x_bin (f : Op) : eBin f a b σ st = bnd (a σ) (fun x => bnd (b σ) fun y => need (f x y)) st := (rfl)
@[simp] theorem x_neg : eNeg a σ st = bnd (a σ) (fun x => need (match x with | .int i => some (.int (-i)) | _ => none)) st := (rfl)
@[simp] theorem x_cmp (f : Cmp) : tCmp f a b σ st = bnd (a σ) (fun x => bnd (b σ) fun y => look fun st => f st x y) st := (rfl)
@[simp] theorem x_chain (f g : Cmp) : tChain f g a b c σ st = bnd (a σ) (fun x => bnd (b σ) fun y => bnd (look fun st => f st x y) fun k => if k then bnd (c σ) fun z => look fun st => g st y z else ret false) st := (rfl)
@[simp] theorem x_and : tAnd t u σ st = bnd (t σ) (fun x => if x then u σ else ret false) st := (rfl)
@[simp] theorem x_or : tOr t u σ st = bnd (t σ) (fun x => if x then ret true else u σ) st := (rfl)
@[simp] theorem x_not : tNot t σ st = bnd (t σ) (fun x => ret (!x)) st := (rfl)
@[simp] theorem x_B : eB t σ st = bnd (t σ) (fun b => ret (.bl b)) st := (rfl)
@[simp] theorem x_E : tE a σ st = bnd (a σ) (fun d => need (match d with | .bl b => some b | _ => none)) st := (rfl)
@[simp] theorem x_If : eIf t a b σ st = bnd (t σ) (fun c => if c then a σ else b σ) st := (rfl)
@[simp] theorem x_And : eAnd a b σ st = bnd (a σ) (fun x => match x with | .bl true => b σ | .bl false => ret (.bl false) | _ => stuck) st := (rfl)
@[simp] theorem x_isi (k : String) : eIsi k a σ st = bnd (a σ) (fun x => look fun st => match dIsi k st x with | some b => some (.bl b) | none => none) st := (rfl)
@[simp] theorem x_isi2 (k l : String) : eIsi2 k l a σ st = bnd (a σ) (fun x => look fun st => match dIsi2 k l st x with | some b => some (.bl b) | none => none) st := (rfl)
@[simp] theorem x_ix : eIx a b σ st = bnd (a σ) (fun x => bnd (b σ) fun i => look fun st => dIx st x i) st := (rfl)
@[simp] theorem x_pNo : pNo σ st = some (.ok none st) := (rfl)
@[simp] theorem x_pAt : pAt a σ st = bnd (a σ) (fun x => need (match x with | .int i => some (some i) | _ => none)) st := (rfl)
@[simp] theorem x_sl (lo hi : P) : eSl a lo hi σ st = bnd (a σ) (fun x => bnd (lo σ) fun l => bnd (hi σ) fun h => look fun st => dSl st x l h) st := (rfl)
@[simp] theorem x_U (g : Store → D → Option D) : eU' g a σ st = bnd (a σ) (fun x => look fun st => g st x) st := (rfl)
@[simp] theorem x_L : eL es σ st = bnd (es σ) (fun ds => ret (.lst ds)) st := (rfl)
@[simp] theorem x_New : eNew es σ st = bnd (es σ) (fun ds => fun st => some (.ok (.loc st.length) (st ++ [.lst ds]))) st := (rfl)
@[simp] theorem x_disp : lDisp es σ st = bnd (es σ) (fun ds => if okLen ds.length then ret ds else stuck) st := (rfl)
@[simp] theorem x_lAdd : lAdd a b σ st = bnd (a σ) (fun x => bnd (b σ) fun y => look fun st => match lstOf st x, lstOf st y with
  | some xs, some ys => if okLen (xs.length + ys.length) then some (xs ++ ys) else none
  | _, _ => none) st := (rfl)
@[simp] theorem x_sorted : lSorted a σ st = bnd (a σ) (fun x => look fun st => match lstOf st x with | some ds => sortD st ds | none => none) st := (rfl)
@[simp] theorem x_yes : tYes σ st = some (.ok true st) := (rfl)
@[simp] theorem x_call (f : Fn) : eCall f es σ st = bnd (es σ) f st := (rfl)
@[simp] theorem x_iOf : iOf a σ st = bnd (a σ) (fun x => look fun st => match x with
  | .tup ds => some (.fix ds)
  | .lst ds => some (.fix ds)
  | .rol ds => some (.fix ds)
  | .loc l => (match st[l]? with | some (.lst ds) => some (.live l ds.length) | _ => none)
  | _ => none) st := (rfl)
@[simp] theorem x_iRange : iRange a σ st = bnd (a σ) (fun x => need (match x with | .int j => if small62 j then some (.fix (rangeD 0 j)) else none | _ => none)) st := (rfl)
@[simp] theorem x_iRange2 : iRange2 a b σ st = bnd (a σ) (fun x => bnd (b σ) fun y => need (match x, y with | .int i, .int j => if small62 i && small62 j then some (.fix (rangeD i j)) else none | _, _ => none)) st := (rfl)
@[simp] theorem x_iEnum : iEnum a σ st = bnd (a σ) (fun x => need (match x with | .tup ds => some (.fix (enumFrom 0 ds)) | .lst ds => some (.fix (enumFrom 0 ds)) | _ => none)) st := (rfl)
@[simp] theorem x_iZip : iZip a b σ st = bnd (a σ) (fun x => bnd (b σ) fun y => need (match x, y with
  | .tup xs, .tup ys => some (.fix (zipD xs ys))
  | .lst xs, .lst ys => some (.fix (zipD xs ys))
  | _, _ => none)) st := (rfl)
@[simp] theorem x_sBnd (m : M α) (f : α → Store → Option RS) : sBnd m σ f st = (match m st with | some (.ok x s1) => f x s1 | some (.ex x s1) => some (.ex x σ s1) | none => none) := (rfl)
@[simp] theorem x_skip : sSkip σ st = some (.nx σ st) := (rfl)
@[simp] theorem x_seq (p q : S) : sSeq p q σ st = (match p σ st with | some (.nx σ1 s1) => q σ1 s1 | r => r) := (rfl)
@[simp] theorem x_set (n : Nat) : sSet n a σ st = sBnd (a σ) σ (fun d st => if n < σ.length then some (.nx (σ.set n (some d)) st) else none) st := (rfl)
@[simp] theorem x_aug (n : Nat) (f : Op) : sAug n f a σ st = sBnd (bnd (eVar n σ) fun x => bnd (a σ) fun y => need (f x y)) σ (fun d st => some (.nx (σ.set n (some d)) st)) st := (rfl)
@[simp] theorem x_sRet : sRet a σ st = sBnd (a σ) σ (fun d st => some (.rt d st)) st := (rfl)
@[simp] theorem x_sIf (p q : S) : sIf t p q σ st = sBnd (t σ) σ (fun c st => if c then p σ st else q σ st) st := (rfl)
@[simp] theorem x_sExpr : sExpr a σ st = sBnd (a σ) σ (fun _ st => some (.nx σ st)) st := (rfl)
@[simp] theorem x_put : sPut o i a σ st = sBnd (a σ) σ (fun d => sBnd (bnd (o σ) fun x => bnd (i σ) fun k => ret (x, k)) σ fun p st => match p with
  | (.loc l, .int k) => (match st[l]? with
    | some (.lst ds) => (match L2.ixN ds.length k with
      | some j => some (.nx σ (st.set l (.lst (ds.set j d))))
      | none => none)
    | _ => none)
  | _ => none) st := (rfl)
@[simp] theorem x_loc : eLoc o σ st = bnd (o σ) (fun x => look fun st => match x with
  | .loc l => (match st[l]? with | some (.lst _) => some l | _ => none)
  | _ => none) st := (rfl)
@[simp] theorem x_app : sApp o a σ st = sBnd (bnd (eLoc o σ) fun l => bnd (a σ) fun d => ret (l, d)) σ (fun p st => match st[p.1]? with
  | some (.lst ds) => if decide (ds.length < 16777216) then some (.nx σ (st.set p.1 (.lst (ds ++ [p.2])))) else none
  | _ => none) st := (rfl)
@[simp] theorem x_ext : sExt o a σ st = sBnd (bnd (eLoc o σ) fun l => bnd (a σ) fun d => bnd (look fun st => lstOf st d) fun xs => ret (l, xs)) σ (fun p st => match st[p.1]? with
  | some (.lst ds) => if okLen (ds.length + p.2.length) then some (.nx σ (st.set p.1 (.lst (ds ++ p.2)))) else none
  | _ => none) st := (rfl)
@[simp] theorem x_for (s : I) (g : G) (p : S) : sFor s g p σ st = sBnd (s σ) σ (fun src st => match src with
  | .fix ds => forFix g p ds σ st
  | .live l n => forLive g p l n 0 σ st) st := (rfl)
@[simp] theorem x_runB (n : Nat) (p : S) (as : List D) : runB n p as st = (match p (start n as) st with
  | some (.nx _ st1) => some (.ok .non st1)
  | some (.rt d st1) => some (.ok d st1)
  | some (.ex x _ st1) => some (.ex x st1)
  | _ => none) := (rfl)
@[simp] theorem x_start (n : Nat) (as : List D) : Mi.start n as = as.map some ++ List.replicate (n - as.length) none := (rfl)
@[simp] theorem y_isi (c : String) (d : D) : dIsi c st d = (match tyOf st d with | some t => some (isa t c) | none => none) := (rfl)
@[simp] theorem y_isi2 (c k : String) (d : D) : dIsi2 c k st d = (match tyOf st d with | some t => some (isa t c || isa t k) | none => none) := (rfl)
@[simp] theorem y_int (n : Int) : tyOf st (.int n) = some "int" := (rfl)
@[simp] theorem y_bl (n : Bool) : tyOf st (.bl n) = some "bool" := (rfl)
@[simp] theorem y_non : tyOf st .non = some "NoneType" := (rfl)
@[simp] theorem y_str (n : Str) : tyOf st (.str n) = some "str" := (rfl)
@[simp] theorem y_tup (n : List D) : tyOf st (.tup n) = some "tuple" := (rfl)
@[simp] theorem y_lst (n : List D) : tyOf st (.lst n) = some "list" := (rfl)
@[simp] theorem y_rol (n : List D) : tyOf st (.rol n) = some "list" := (rfl)
@[simp] theorem y_isa (t c : String) : isa t c = ((t == c) || (t == "bool" && c == "int")) := (rfl)
@[simp] theorem z_lt (x y : Int) : dLt st (.int x) (.int y) = some (decide (x < y)) := (rfl)
@[simp] theorem z_le (x y : Int) : dLe st (.int x) (.int y) = some (decide (x ≤ y)) := (rfl)
@[simp] theorem z_gt (x y : Int) : dGt st (.int x) (.int y) = some (decide (y < x)) := (rfl)
@[simp] theorem z_ge (x y : Int) : dGe st (.int x) (.int y) = some (decide (y ≤ x)) := (rfl)
@[simp] theorem z_add (x y : Int) : oAdd (.int x) (.int y) = some (.int (x + y)) := (rfl)
@[simp] theorem z_addI (x y : Int) : oAddI (.int x) (.int y) = some (.int (x + y)) := (rfl)
@[simp] theorem z_sub (x y : Int) : oSub (.int x) (.int y) = some (.int (x - y)) := (rfl)
@[simp] theorem z_mul (x y : Int) : oMul (.int x) (.int y) = if mulOk x y then some (.int (x * y)) else none := (rfl)
@[simp] theorem z_div (x y : Int) : oDiv (.int x) (.int y) = if divOk y then some (.int (x / y)) else none := (rfl)
@[simp] theorem z_mod (x y : Int) : oMod (.int x) (.int y) = if 0 < y then some (.int (x % y)) else none := by simp [oMod]
@[simp] theorem z_min (x y : Int) : oMin (.int x) (.int y) = some (.int (if y < x then y else x)) := (rfl)
@[simp] theorem z_max (x y : Int) : oMax (.int x) (.int y) = some (.int (if y > x then y else x)) := (rfl)
@[simp] theorem z_tt (x y : List D) : oAdd (.tup x) (.tup y) = if okLen (x.length + y.length) then some (.tup (x ++ y)) else none := (rfl)
@[simp] theorem w_tup (x : List D) : seqOf st (.tup x) = some x := (rfl)
@[simp] theorem w_lst (x : List D) : seqOf st (.lst x) = some x := (rfl)
@[simp] theorem w_rol (x : List D) : seqOf st (.rol x) = some x := (rfl)
@[simp] theorem w_loc (l : Nat) : seqOf st (.loc l) = (match st[l]? with | some (.lst ds) => some ds | _ => none) := (rfl)
@[simp] theorem w_lst' (x : List D) : lstOf st (.lst x) = some x := (rfl)
@[simp] theorem w_loc' (l : Nat) : lstOf st (.loc l) = (match st[l]? with | some (.lst ds) => some ds | _ => none) := (rfl)
@[simp] theorem w_ix (x : D) (k : Int) : dIx st x (.int k) = (match seqOf st x with | some ds => itemAt ds k | _ => none) := by
  unfold dIx
  rcases seqOf st x with _ | ds <;> rfl
@[simp] theorem w_len_t (x : List D) : gLen st (.tup x) = some (.int x.length) := (rfl)
@[simp] theorem w_len_l (x : List D) : gLen st (.lst x) = some (.int x.length) := (rfl)
@[simp] theorem w_len_r (x : List D) : gLen st (.rol x) = some (.int x.length) := (rfl)
@[simp] theorem w_tup_t (x : List D) : gTup st (.tup x) = some (.tup x) := (rfl)
@[simp] theorem w_tup_l (x : List D) : gTup st (.lst x) = some (.tup x) := (rfl)
@[simp] theorem w_isN (x y : D) : dIsN' st x y = if isNon y then some (isNon x) else none := (rfl)
@[simp] theorem w_isNN (x y : D) : dIsNotN' st x y = if isNon y then some (!isNon x) else none := (rfl)
@[simp] theorem w_eqi (x y : Int) : dEq st (.int x) (.int y) = some (decide (x = y)) := dEq_int st x y
@[simp] theorem w_eqb (x y : Bool) : dEq st (.bl x) (.bl y) = some (decide (x = y)) := dEq_bl st x y
@[simp] theorem w_nei (x y : Int) : dNe st (.int x) (.int y) = some (decide (x ≠ y)) := dNe_int st x y
@[simp] theorem w_neb (x y : Bool) : dNe st (.bl x) (.bl y) = some (decide (x ≠ y)) := dNe_bl st x y
@[simp] theorem w_eqn (x y : List Nat) : dEq st (.tup (nsD x)) (.tup (nsD y)) = some (decide (x = y)) := dEq_nums st x y
@[simp] theorem w_uAbs (x : Int) : gU uAbs st (.int x) = some (.int (if x < 0 then -x else x)) := (rfl)
@[simp] theorem w_uInt (x : Int) : gU uInt st (.int x) = some (.int x) := (rfl)
@[simp] theorem w_len (xs : List Nat) : (nsD xs).length = xs.length := nsD_len xs
@[simp] theorem w_g (n : Nat) (d : D) : gVar n d σ = if n < σ.length then some (σ.set n (some d)) else none := (rfl)
@[simp] theorem w_g2 (n m : Nat) (x y : D) : gSet2 n m (.tup [x, y]) σ = if n < σ.length && m < σ.length then some ((σ.set n (some x)).set m (some y)) else none := (rfl)
@[simp] theorem w_wipe0 : wipe σ [] = σ := (rfl)
@[simp] theorem w_wipe (v : Nat) (vs : List Nat) : wipe σ (v :: vs) = (wipe σ vs).set v none := (rfl)
theorem okLen_le {n : Nat} (h : n ≤ 1000) : okLen n = true := decide_eq_true (Nat.le_trans h (by decide +kernel))
@[simp] theorem okLen_l0 : okLen 0 = true := okLen_le (by decide)
@[simp] theorem okLen_l1 : okLen 1 = true := okLen_le (by decide)
@[simp] theorem okLen_l2 : okLen 2 = true := okLen_le (by decide)
@[simp] theorem okLen_l3 : okLen 3 = true := okLen_le (by decide)
@[simp] theorem okLen_l4 : okLen 4 = true := okLen_le (by decide)
@[simp] theorem okLen_l5 : okLen 5 = true := okLen_le (by decide)
@[simp] theorem okLen_l6 : okLen 6 = true := okLen_le (by decide)
@[simp] theorem okLen_l7 : okLen 7 = true := okLen_le (by decide)
@[simp] theorem okLen_l8 : okLen 8 = true := okLen_le (by decide)
@[simp] theorem okLen_l9 : okLen 9 = true := okLen_le (by decide)
@[simp] theorem okLen_l10 : okLen 10 = true := okLen_le (by decide)
@[simp] theorem okLen_l11 : okLen 11 = true := okLen_le (by decide)
@[simp] theorem okLen_l12 : okLen 12 = true := okLen_le (by decide)
@[simp] theorem okLen_l13 : okLen 13 = true := okLen_le (by decide)
@[simp] theorem okLen_l14 : okLen 14 = true := okLen_le (by decide)
@[simp] theorem okLen_l15 : okLen 15 = true := okLen_le (by decide)
@[simp] theorem okLen_l16 : okLen 16 = true := okLen_le (by decide)
theorem atI_nat (ds : List D) (k : Nat) (h : k < ds.length) : itemAt ds (k : Int) = ds[k]? := by
  unfold itemAt L2.atI L2.ixN
  rw [if_pos (by omega), if_pos (by omega)]
  rfl
end
end Mi

set_option Elab.async false
set_option linter.all false
set_option autoImplicit false
set_option maxRecDepth 100000
/-! steps, one construct each -/
namespace Mi
open PySem
section
variable {α : Type} {a b c o i : E} {es : EL} {t u : T} {σ σ1 : Env} {st st1 st2 : Store} {d x y : D} {ds : List D} {p q : S} {n k : Nat}
theorem L_ok (h : es σ st = some (.ok ds st1)) : eL es σ st = some (.ok (.lst ds) st1) := by simp [h]
theorem U_ok {g : Store → D → Option D} (h : a σ st = some (.ok x st1)) (e : g st1 x = some d) : eU' g a σ st = some (.ok d st1) := by simp [h, e]
theorem set_ok (h : a σ st = some (.ok d st1)) (hn : n < σ.length) : sSet n a σ st = some (.nx (σ.set n (some d)) st1) := by simp [h, hn]
theorem ret_ok (h : a σ st = some (.ok d st1)) : sRet a σ st = some (.rt d st1) := by simp [h]
theorem if_ok {k : Bool} (h : t σ st = some (.ok k st1)) : sIf t p q σ st = if k then p σ st1 else q σ st1 := by simp [h]
theorem disp_ok (h : es σ st = some (.ok ds st1)) (hl : okLen ds.length = true) : lDisp es σ st = some (.ok ds st1) := by simp [h, hl]
theorem call_ok {f : Fn} (h : es σ st = some (.ok ds st1)) : eCall f es σ st = f ds st1 := by simp [h]
theorem sorted_ok {xs : List D} (h : a σ st = some (.ok x st1)) (h1 : lstOf st1 x = some xs) (h2 : sortD st1 xs = some ds) : lSorted a σ st = some (.ok ds st1) := by simp [h, h1, h2]
theorem for_fix {s : I} {g : G} (h : s σ st = some (.ok (.fix ds) st1)) : sFor s g p σ st = forFix g p ds σ st1 := by simp [h]
theorem for_live {s : I} {g : G} {l : Nat} (h : s σ st = some (.ok (.live l n) st1)) : sFor s g p σ st = forLive g p l n 0 σ st1 := by simp [h]
theorem ext_ok {l : Nat} {ds0 xs : List D} (ho : o σ st = some (.ok (.loc l) st)) (h0 : st[l]? = some (.lst ds0)) (ha : a σ st = some (.ok d st1)) (hl : lstOf st1 d = some xs) (hg : st1[l]? = some (.lst ds)) (hok : okLen (ds.length + xs.length) = true) : sExt o a σ st = some (.nx σ (st1.set l (.lst (ds ++ xs)))) := by
  have e1 : eLoc o σ st = some (.ok l st) := by simp [ho, h0]
  have e2 : (bnd (eLoc o σ) fun l => bnd (a σ) fun d => bnd (look fun st => lstOf st d) fun xs => ret (l, xs)) st = some (.ok (l, xs) st1) := by
    rw [bnd_ok e1, bnd_ok ha, bnd_ok (show look (fun st => lstOf st d) st1 = some (.ok xs st1) by simp [hl])]
    rfl
  unfold sExt
  rw [sBnd_ok e2]
  dsimp only
  rw [hg]
  dsimp only
  rw [if_pos hok]
theorem app_ok {l : Nat} {ds0 : List D} (ho : o σ st = some (.ok (.loc l) st)) (h0 : st[l]? = some (.lst ds0)) (ha : a σ st = some (.ok d st1)) (hg : st1[l]? = some (.lst ds)) (hok : ds.length ≤ 1000) : sApp o a σ st = some (.nx σ (st1.set l (.lst (ds ++ [d])))) := by
  have e1 : eLoc o σ st = some (.ok l st) := by simp [ho, h0]
  have e2 : (bnd (eLoc o σ) fun l => bnd (a σ) fun d => ret (l, d)) st = some (.ok (l, d) st1) := by
    rw [bnd_ok e1, bnd_ok ha]
    rfl
  unfold sApp
  rw [sBnd_ok e2]
  dsimp only
  rw [hg]
  dsimp only
  rw [if_pos (decide_eq_true (Nat.lt_of_le_of_lt hok (by decide +kernel)))]
theorem iOf_lst (h : a σ st = some (.ok (.lst ds) st1)) : iOf a σ st = some (.ok (.fix ds) st1) := by simp [h]
theorem iOf_tup (h : a σ st = some (.ok (.tup ds) st1)) : iOf a σ st = some (.ok (.fix ds) st1) := by simp [h]
theorem call_to {f : Fn} {r : Option (R D)} (h : es σ st = some (.ok ds st1)) (h2 : f ds st1 = r) : eCall f es σ st = r := by rw [← h2]; simp [h]
theorem forFix_rt {g : G} {σ2 : Env} (h : g d σ = some σ1) (h2 : p σ1 st = some (.rt x st2)) : forFix g p (d :: ds) σ st = some (.rt x st2) := by
  unfold forFix; rw [h]; dsimp only; rw [h2]
theorem forFix_nx {g : G} {σ2 : Env} (h : g d σ = some σ1) (h2 : p σ1 st = some (.nx σ2 st2)) : forFix g p (d :: ds) σ st = forFix g p ds σ2 st2 := by
  show (match g d σ with
    | none => none
    | some σ1 => match p σ1 st with
      | some (.nx σ2 st2) => forFix g p ds σ2 st2
      | some (.ct σ2 st2) => forFix g p ds σ2 st2
      | some (.bk σ2 st2) => some (.nx σ2 st2)
      | r => r) = _
  rw [h]; dsimp only; rw [h2]
theorem wh_yes (h : t σ st = some (.ok true st1)) (h2 : p σ st1 = some (.nx σ1 st2)) : whN t p (n + 1) σ st = whN t p n σ1 st2 := by
  show sBnd (t σ) σ (fun k st => if k then (match p σ st with
      | some (.nx σ2 st2) => whN t p n σ2 st2
      | some (.ct σ2 st2) => whN t p n σ2 st2
      | some (.bk σ2 st2) => some (.nx σ2 st2)
      | r => r) else some (.nx σ st)) st = _
  simp [h, h2]
theorem wh_no (h : t σ st = some (.ok false st1)) : whN t p (n + 1) σ st = some (.nx σ st1) := by
  unfold whN; simp [h]
theorem forLive_ind {g : G} {b : S} {l : Nat} (f : α → D) (I : List α → Env → Store → Prop) (xs : List α) : ∀ (post pre : List α) (σ : Env) (st : Store), pre ++ post = xs → (∀ p σ st, I p σ st → st[l]? = some (.lst (xs.map f))) → (∀ (p : List α) (x : α) (q : List α) (σ : Env) (st : Store), p ++ x :: q = xs → I p σ st → ∃ σ1 σ2 st2, g (f x) σ = some σ1 ∧ b σ1 st = some (.nx σ2 st2) ∧ I (p ++ [x]) σ2 st2) → I pre σ st →
    ∃ σ' st', forLive g b l post.length pre.length σ st = some (.nx σ' st') ∧ I xs σ' st'
  | [], pre, σ, st, e, hl, _, h => by
    rw [List.append_nil] at e
    subst e
    refine ⟨σ, st, ?_, h⟩
    show forLive g b l 0 pre.length σ st = _
    unfold forLive
    rw [hl _ _ _ h]
    simp
  | x :: post, pre, σ, st, e, hl, hs, h => by
    obtain ⟨σ1, σ2, st2, e1, e2, h2⟩ := hs pre x post σ st e h
    obtain ⟨σ', st', e3, h3⟩ := forLive_ind f I xs post (pre ++ [x]) σ2 st2 (by rw [← e, List.append_assoc]; rfl) hl hs h2
    refine ⟨σ', st', ?_, h3⟩
    have hg : (xs.map f)[pre.length]? = some (f x) := by
      rw [← e, List.map_append, List.getElem?_append_right (by simp)]
      simp
    rw [List.length_cons]
    unfold forLive
    rw [hl _ _ _ h]
    dsimp only
    rw [hg]
    dsimp only
    rw [e1]
    dsimp only
    rw [e2]
    rw [List.length_append] at e3
    exact e3
/-- for x in ..: if x is bad: return x, the store kept -/
theorem forFix_find {g : G} {b : S} {σ' : Env} (f : α → D) (sg : α → Env) (bad : α → Bool) : ∀ (xs : List α) (σ : Env) (st : Store), (∀ σ : Env, σ.length = σ'.length → ∀ x ∈ xs, ∃ s1, s1.length = σ'.length ∧ g (f x) σ = some s1 ∧ b s1 st = if bad x then some (.rt (f x) st) else some (.nx s1 st)) → σ.length = σ'.length →
    (match xs.find? bad with | some x => forFix g b (xs.map f) σ st = some (.rt (f x) st) | none => ∃ s2, s2.length = σ'.length ∧ forFix g b (xs.map f) σ st = some (.nx s2 st))
  | [], σ, st, _, h => ⟨σ, h, rfl⟩
  | x :: xs, σ, st, hs, h => by
    obtain ⟨s1, h1, e1, e2⟩ := hs σ h x List.mem_cons_self
    rw [List.map_cons]
    unfold forFix
    rw [e1]
    dsimp only
    rw [e2]
    cases hb : bad x with
    | true => rw [List.find?_cons_of_pos hb]; rfl
    | false =>
      rw [List.find?_cons_of_neg (by simp [hb])]
      exact forFix_find (σ' := σ') f sg bad xs s1 st (fun σ hσ y hy => hs σ hσ y (List.mem_cons_of_mem _ hy)) h1
/-- sorted -/
theorem sortD_map {st : Store} (f : α → D) (k : α → PyData) (xs ys : List α) (hp : toPys st (xs.map f) = some (xs.map k)) (hperm : ys.Perm xs) (hs : ys.Pairwise fun a b => W.dataLe false k a b = true) (ha : ∀ a b, a ∈ xs → b ∈ xs → W.dataLe false k a b = true → W.dataLe false k b a = true → a = b)
    (h1 : alikeB (xs.map k) = true) (h2 : ((xs.map k).all isTup1 || (xs.map k).all noTup) = true) (h3 : okLen xs.length = true) (h4 : (xs.map k).all (fun x => decide (x.depth ≤ 64)) = true) : sortD st (xs.map f) = some (ys.map f) := by
  unfold sortD
  rw [hp]
  dsimp only
  rw [h1, h2, h4, List.length_map, h3, if_pos (by rfl)]
  have hz : (xs.map f).zip (xs.map k) = xs.map fun a => (f a, k a) := by
    rw [List.zip_map']
  have hm : (xs.map fun a => (f a, k a)).mergeSort (W.dataLe false (·.2)) = (xs.mergeSort (W.dataLe false k)).map fun a => (f a, k a) := by
    rw [List.map_mergeSort]
    intro a _ b _
    rfl
  have hy : xs.mergeSort (W.dataLe false k) = ys := by
    have T := PySem.W.sortLe_total (PyProof.Rows.listOrd PyProof.Rows.itemOrd) false (fun a : α => W.keyToks (k a))
    refine List.Perm.eq_of_pairwise (le := fun a b => W.dataLe false k a b = true) (fun a b ha' hb' q1 q2 => ha a b ?_ ?_ q1 q2) (List.pairwise_mergeSort (le := W.dataLe false k) T.trans (fun a b => by rw [Bool.or_eq_true]; exact T.total a b) xs) hs ((List.mergeSort_perm xs _).trans hperm.symm)
    · exact (List.mergeSort_perm xs _).mem_iff.mp ha'
    · exact hperm.mem_iff.mp hb'
  rw [hz, hm, hy, List.map_map]
  rfl
theorem alikeB_nat (xs : List Nat) : alikeB (xs.map pN) = true := by
  unfold alikeB
  rw [List.all_map]
  refine List.all_eq_true.mpr fun x hx => ?_
  show ((xs.map pN).all fun b => W.alike (pN x) b) = true
  rw [List.all_map]
  exact List.all_eq_true.mpr fun y hy => rfl
theorem sortD_nat {st : Store} (xs : List Nat) (hl : okLen xs.length = true) : sortD st (nsD xs) = some (nsD (xs.mergeSort fun a b => decide (a ≤ b))) := by
  have hle : ∀ a b : Nat, W.dataLe false pN a b = decide (a ≤ b) := fun a b => by
    have := congrFun (congrFun (W.dataLe_int (β := Nat) (fun n => (n : Int))) a) b
    have e : W.dataLe false pN a b = decide ((a : Int) ≤ (b : Int)) := this
    rw [e, decide_eq_decide]; omega
  refine sortD_map dN pN xs _ (toPys_nsD st xs) (List.mergeSort_perm xs _) ?_ (fun a b _ _ h1 h2 => ?_) (alikeB_nat xs) ?_ hl ?_
  · refine (List.pairwise_mergeSort (le := fun a b : Nat => decide (a ≤ b)) (fun a b c h1 h2 => by simp at *; omega) (fun a b => by simp; omega) xs).imp fun {a b} h => ?_
    rw [hle]; exact h
  · rw [hle] at h1 h2
    simp at h1 h2
    omega
  · rw [Bool.or_eq_true]
    refine .inr ?_
    rw [List.all_map]
    exact List.all_eq_true.mpr fun _ _ => rfl
  · rw [List.all_map]
    exact List.all_eq_true.mpr fun _ _ => rfl
theorem zipD_tail : ∀ xs ys : List Nat, zipD (nsD xs) (nsD ys) = (xs.zip ys).map fun p => D.tup [dN p.1, dN p.2]
  | [], _ => rfl
  | _ :: _, [] => rfl
  | x :: xs, y :: ys => by
    show D.tup [dN x, dN y] :: zipD (nsD xs) (nsD ys) = _
    rw [zipD_tail xs ys]; rfl
theorem cut1 (ds : List D) : cutD ds (some 1) none = ds.drop 1 := by
  unfold cutD
  cases ds with
  | nil => rfl
  | cons d ds =>
    have h1 : HT.sIx (d :: ds).length 0 (some 1) = 1 := by
      simp [HT.sIx]
    have h2 : HT.sIx (d :: ds).length (d :: ds).length none = (d :: ds).length := rfl
    rw [h1, h2]
    simp
theorem enum_map (f : α → D) : ∀ (xs : List α) (n : Nat), enumFrom n (xs.map f) = (xs.zipIdx n).map fun p => D.tup [dN p.2, f p.1]
  | [], _ => rfl
  | x :: xs, n => by
    show D.tup [.int n, f x] :: enumFrom (n + 1) (xs.map f) = _
    rw [enum_map f xs (n + 1)]
    rfl
theorem okLen_of (h : n ≤ 16777216) : okLen n = true := decide_eq_true h
end
end Mi

set_option Elab.async false
set_option linter.all false
set_option autoImplicit false
set_option maxRecDepth 100000
namespace K45
open PySem Mi
/-! plain lists of numbers -/
def grow (nb : Nat → List Nat) : Nat → Nat → List Nat → Option (List Nat)
  | 0, _, _ => none
  | n + 1, a, fd => if a < fd.length then grow nb n (a + 1) (fd ++ (nb (fd.getD a 0)).filter (fun x => decide (x ∉ fd))) else some fd
structure Nb (m : Nat) (S : Nat → Prop) (nb : Nat → List Nat) : Prop where
  nd : ∀ i, (nb i).Nodup
  lt : ∀ i, S i → ∀ x ∈ nb i, x < m ∧ S x
structure Fd (m : Nat) (S : Nat → Prop) (fd : List Nat) : Prop where
  nd : fd.Nodup
  lt : ∀ x ∈ fd, x < m ∧ S x
theorem Fd.len {m : Nat} {S : Nat → Prop} {fd : List Nat} (h : Fd m S fd) : fd.length ≤ m := by
  have := List.Nodup.length_le_of_subset h.nd (l₂ := List.range m) fun x hx => List.mem_range.mpr (h.lt x hx).1
  simpa using this
theorem getD_mem {fd : List Nat} {a : Nat} (h : a < fd.length) : fd.getD a 0 ∈ fd := by
  rw [List.getD_eq_getElem?_getD, List.getElem?_eq_getElem h]
  exact List.getElem_mem h
theorem Fd.more {m : Nat} {S : Nat → Prop} {nb : Nat → List Nat} {fd : List Nat} {a : Nat} (hn : Nb m S nb) (h : Fd m S fd) (ha : a < fd.length) : Fd m S (fd ++ (nb (fd.getD a 0)).filter (fun x => decide (x ∉ fd))) := by
  refine ⟨List.nodup_append.mpr ⟨h.nd, (hn.nd _).sublist List.filter_sublist, fun x hx y hy e => ?_⟩, fun x hx => ?_⟩
  · subst e
    have := (List.mem_filter.mp hy).2
    exact (of_decide_eq_true this) hx
  · rcases List.mem_append.mp hx with z | z
    · exact h.lt x z
    · exact hn.lt _ (h.lt _ (getD_mem ha)).2 x (List.mem_filter.mp z).1
theorem grow_some {m : Nat} {S : Nat → Prop} {nb : Nat → List Nat} (hn : Nb m S nb) : ∀ (n a : Nat) (fd : List Nat), Fd m S fd → a ≤ fd.length → m + 1 ≤ n + a → ∃ r, grow nb n a fd = some r ∧ Fd m S r
  | 0, a, fd, h, h1, h2 => by have := h.len; omega
  | n + 1, a, fd, h, h1, h2 => by
    unfold grow
    by_cases ha : a < fd.length
    · rw [if_pos ha]
      exact grow_some hn n (a + 1) _ (h.more hn ha) (by rw [List.length_append]; omega) (by omega)
    · rw [if_neg ha]
      exact ⟨fd, rfl, h⟩
theorem grow_congr {m : Nat} {S : Nat → Prop} {nb nb' : Nat → List Nat} (hn : Nb m S nb) (he : ∀ i, S i → nb' i = nb i) : ∀ (n a : Nat) (fd : List Nat), Fd m S fd → grow nb' n a fd = grow nb n a fd
  | 0, _, _, _ => rfl
  | n + 1, a, fd, h => by
    unfold grow
    by_cases ha : a < fd.length
    · rw [if_pos ha, if_pos ha, he _ (h.lt _ (getD_mem ha)).2]
      exact grow_congr hn he n (a + 1) _ (h.more hn ha)
    · rw [if_neg ha, if_neg ha]
def bfs (nb : Nat → List Nat) (p : Nat) : List Nat := (grow nb 24 0 [p]).getD []
theorem bfs_ok {m : Nat} {S : Nat → Prop} {nb : Nat → List Nat} (hn : Nb m S nb) {p : Nat} (hp : p < m) (hs : S p) (hm : m ≤ 9) : grow nb 24 0 [p] = some (bfs nb p) ∧ Fd m S (bfs nb p) := by
  obtain ⟨r, e, h⟩ := grow_some hn 24 0 [p] ⟨List.nodup_cons.mpr ⟨List.not_mem_nil, List.nodup_nil⟩, fun x hx => by rw [List.mem_singleton.mp hx]; exact ⟨hp, hs⟩⟩ (Nat.zero_le _) (by omega)
  unfold bfs
  rw [e]
  exact ⟨rfl, h⟩
theorem bfs_congr {m : Nat} {S : Nat → Prop} {nb nb' : Nat → List Nat} (hn : Nb m S nb) (he : ∀ i, S i → nb' i = nb i) {p : Nat} (hp : p < m) (hs : S p) : bfs nb' p = bfs nb p := by
  unfold bfs
  rw [grow_congr hn he]
  exact ⟨List.nodup_cons.mpr ⟨List.not_mem_nil, List.nodup_nil⟩, fun x hx => by rw [List.mem_singleton.mp hx]; exact ⟨hp, hs⟩⟩
def sortN (r : List Nat) : List Nat := r.mergeSort fun a b => decide (a ≤ b)
theorem sortN_perm (r : List Nat) : (sortN r).Perm r := List.mergeSort_perm r _
theorem sortN_pw (r : List Nat) : (sortN r).Pairwise (· ≤ ·) := by
  have := List.pairwise_mergeSort (le := fun a b : Nat => decide (a ≤ b)) (fun a b c h1 h2 => by simp at *; omega) (fun a b => by simp; omega) r
  exact this.imp fun h => by simpa using h
theorem sortN_eq {r left : List Nat} (h1 : r.Nodup) (h2 : ∀ x ∈ r, x ∈ left) (h3 : left.Pairwise (· < ·)) : decide (sortN r = left) = decide (r.length = left.length) := by
  rw [decide_eq_decide]
  constructor
  · intro e
    rw [← e, (sortN_perm r).length_eq]
  · intro e
    have nl : left.Nodup := h3.imp fun h => Nat.ne_of_lt h
    have hf : left.filter (fun x => decide (x ∈ r)) = left := by
      apply List.filter_eq_self.mpr
      have hp : (left.filter (fun x => decide (x ∈ r))).Perm r := (List.perm_ext_iff_of_nodup (nl.sublist List.filter_sublist) h1).mpr fun x => by
        rw [List.mem_filter]
        exact ⟨fun h => of_decide_eq_true h.2, fun h => ⟨h2 x h, decide_eq_true h⟩⟩
      have hl := hp.length_eq
      exact List.length_filter_eq_length_iff.mp (hl.trans e)
    have hp : r.Perm left := (List.perm_ext_iff_of_nodup h1 nl).mpr fun x => ⟨h2 x, fun h => by
      rw [← hf] at h
      exact of_decide_eq_true (List.mem_filter.mp h).2⟩
    exact List.Perm.eq_of_pairwise (le := (· ≤ ·)) (fun a b _ _ h1 h2 => Nat.le_antisymm h1 h2) (sortN_pw r) (h3.imp fun h => Nat.le_of_lt h) ((sortN_perm r).trans hp)

/-! lots -/
def beg (lot : List Nat) : Nat := match lot.getLast? with | some x => x + 1 | none => 0
def nextL (n : Nat) (lot : List Nat) : List (List Nat) := ((List.range (n - beg lot)).map (beg lot + ·)).map fun p => lot ++ [p]
def levels (n : Nat) : Nat → List (List Nat)
  | 0 => [[]]
  | k + 1 => (levels n k).flatMap (nextL n)
def upTo (n : Nat) : Nat → List (List Nat)
  | 0 => [[]]
  | k + 1 => upTo n k ++ levels n (k + 1)
def lotsOf : Nat → List (List Nat)
  | 0 => [[]]
  | k + 1 => lotsOf k ++ (lotsOf k).map fun lot => lot ++ [k]
def lots (n : Nat) : List (List Nat) := upTo n n
def kL (lot : List Nat) : PyData := .tuple [.int lot.length, .tuple (lot.map pN)]
def chainB : List (List Nat) → Bool
  | a :: b :: r => W.dataLt (kL a) (kL b) && chainB (b :: r)
  | _ => true
theorem lots_facts : ∀ n < 9, (upTo n n).isPerm (lotsOf n) = true ∧ chainB (upTo n n) = true ∧ ((upTo n n).length ≤ 1000) ∧ (∀ k < 10, upTo n (min n k) = (upTo n n).filter (fun l => decide (l.length ≤ k)) ∧ (levels n k).length ≤ 1000 ∧ (upTo n k).length ≤ 1000 ∧ ((levels n k).all fun l => decide (l.length ≤ 9) && l.all fun x => decide (x < n)) = true) := by decide +kernel
end K45

set_option Elab.async false
set_option linter.all false
set_option autoImplicit false
set_option maxRecDepth 100000
namespace K45
open PySem Mi
/-! what each def gives -/
abbrev wD (w : List (List Nat)) : D := .tup (w.map nums)
structure Web (w : List (List Nat)) : Prop where
  lo : 1 ≤ w.length
  hi : w.length ≤ 8
  asc : ∀ p ∈ w, p.Pairwise (· < ·)
  lt : ∀ p ∈ w, ∀ x ∈ p, x < w.length
  no : ∀ i p, (p, i) ∈ w.zipIdx → i ∉ p
theorem belows_wD (n : Nat) (w : List (List Nat)) : belows n (w.map nums) = true := belows_map n nums (below_nums n) w
theorem is_integer_ok (i : Int) (st : Store) (g : Good st) : f_is_integer [.int i] st = some (.ok (.bl true) st) :=
  scp_same (by simp [b_is_integer]) rfl rfl g
theorem is_between_ok (i j k : Int) (st : Store) (g : Good st) : f_is_between [.int i, .int j, .int k] st = some (.ok (.bl (decide (j ≤ i) && decide (i ≤ k))) st) :=
  scp_same (by simp [b_is_between, is_integer_ok _ _ g]; by_cases h : j ≤ i <;> simp [h]) rfl rfl g
theorem is_index_ok (i k : Nat) (h : i < k) (st : Store) (g : Good st) : f_is_index [dN i, dN k] st = some (.ok (.bl true) st) :=
  scp_same (by simp [b_is_index, is_between_ok _ _ _ _ g]; omega) rfl rfl g
theorem check_number_ok (i j k : Int) (h1 : j ≤ i) (h2 : i ≤ k) (st : Store) (g : Good st) : f_check_number [.int i, .int j, .int k] st = some (.ok .non st) :=
  scp_same (by simp [b_check_number, is_between_ok _ _ _ _ g, h1, h2]) rfl rfl g
theorem pw_zip : ∀ {xs : List Nat}, xs.Pairwise (· < ·) → (xs.zip (xs.drop 1)).all (fun p => decide (p.1 < p.2)) = true
  | [], _ => rfl
  | [_], _ => rfl
  | a :: b :: r, h => by
    have ih := pw_zip (List.pairwise_cons.mp h).2
    have hab : a < b := (List.pairwise_cons.mp h).1 b List.mem_cons_self
    show (decide (a < b) && ((b :: r).zip ((b :: r).drop 1)).all (fun p => decide (p.1 < p.2))) = true
    rw [ih]; simp [hab]
theorem asc_ok (xs : List Nat) (h : xs.Pairwise (· < ·)) (hl : xs.length ≤ 100) (st : Store) (g : Good st) : f_are_ascending [nums xs] st = some (.ok (.bl true) st) := by
  refine scp_same (runB_rt (ret_ok (U_ok (L_ok (lComp_all (fun p : Nat × Nat => D.tup [dN p.1, dN p.2]) (fun p => [some (nums xs), some (dN p.1), some (dN p.2)]) (fun p => .bl (decide (p.1 < p.2))) (xs.zip (xs.drop 1)) ?_ ?_ ?_ ?_)) ?_))) rfl rfl g
  · have e : (nsD xs).drop 1 = nsD (xs.drop 1) := by unfold nsD; rw [List.map_drop]
    simp [dSl, cut1, e, zipD_tail]
  · intro p _; simp
  · intro p _; simp
  · refine okLen_of ?_
    rw [List.length_zip, List.length_drop]; omega
  · rw [gAll_map, pw_zip h]
theorem is_pocket_ok (xs : List Nat) (i k : Nat) (h : xs.Pairwise (· < ·)) (hl : ∀ x ∈ xs, x < k) (hk : k ≤ 9) (hi : i ∉ xs) (st : Store) (g : Good st) : f_is_pocket [nums xs, dN i, dN k] st = some (.ok (.bl true) st) := by
  have hx : xs.length ≤ 9 := by
    have := List.Nodup.length_le_of_subset (h.imp fun h => Nat.ne_of_lt h) (l₂ := List.range k) fun x hx => List.mem_range.mpr (hl x hx)
    rw [List.length_range] at this; omega
  have hc : lComp (iOf (eVar 0)) (gVar 3) tYes (eCall f_is_index (eCons (eVar 3) (eCons (eVar 2) eNil))) [3] [some (nums xs), some (dN i), some (dN k), none] st = some (.ok (xs.map fun x => D.bl ((fun _ => true) x)) st) := by
    refine lComp_all dN (fun x => [some (nums xs), some (dN i), some (dN k), some (dN x)]) _ xs ?_ ?_ ?_ ?_
    · simp [nsD]
    · intro x _; simp
    · intro x hx; simp [is_index_ok x k (hl x hx) st g]
    · exact okLen_of (by omega)
  have ha := gAll_map st (fun _ : Nat => true) xs
  have hall : xs.all (fun _ => true) = true := List.all_eq_true.mpr fun _ _ => rfl
  rw [hall] at ha
  have hn : dNotIn st (dN i) (nums xs) = some true := by rw [dNotIn_nsD st i (nums xs) xs rfl]; simp [hi]
  exact scp_same (by simp [b_is_pocket, hc, ha, asc_ok xs h (by omega) st g, hn]) rfl rfl g
theorem is_web_ok (w : List (List Nat)) (h : Web w) (st : Store) (g : Good st) : f_is_web [wD w] st = some (.ok (.bl true) st) := by
  have hc : lComp (iEnum (eVar 0)) (gSet2 1 2) tYes (eCall f_is_pocket (eCons (eVar 2) (eCons (eVar 1) (eCons (eU' gLen (eVar 0)) eNil)))) [1, 2] [some (wD w), none, none] st = some (.ok (w.zipIdx.map fun x => D.bl ((fun _ => true) x)) st) := by
    refine lComp_all (fun p : List Nat × Nat => D.tup [dN p.2, nums p.1]) (fun p => [some (wD w), some (dN p.2), some (nums p.1)]) _ w.zipIdx ?_ ?_ ?_ ?_
    · simp [enum_map]
    · intro x _; simp
    · intro x hx
      have hm : x.1 ∈ w := by
        obtain ⟨p, i⟩ := x
        have := List.mem_zipIdx hx
        simp at this
        rw [this.2]; exact List.getElem_mem _
      have := is_pocket_ok x.1 x.2 w.length (h.asc _ hm) (h.lt _ hm) (by have := h.hi; omega) (h.no _ _ hx) st g
      simp [this]
    · have := h.hi
      exact okLen_of (by rw [List.length_zipIdx]; omega)
  have ha := gAll_map st (fun _ : List Nat × Nat => true) w.zipIdx
  have hall : w.zipIdx.all (fun _ => true) = true := List.all_eq_true.mpr fun _ _ => rfl
  rw [hall] at ha
  have h1 := h.lo
  have h2 := h.hi
  have h3 : (1 : Int) ≤ (w.length : Int) := by omega
  have h4 : (w.length : Int) ≤ 9 := by omega
  exact scp_same (by simp [b_is_web, hc, ha, h3, h4]) rfl rfl g
theorem check_web_ok (w : List (List Nat)) (h : Web w) (st : Store) (g : Good st) : f_check_web [wD w] st = some (.ok .non st) :=
  scp_same (by simp [b_check_web, is_web_ok w h st g]) rfl rfl g
theorem check_asked_ok (w : List (List Nat)) (k : Nat) (h : Web w) (hk : k ≤ 9) (st : Store) (g : Good st) : f_check_asked [wD w, dN k] st = some (.ok .non st) :=
  scp_same (by simp [b_check_asked, check_web_ok w h st g, check_number_ok (k : Int) 0 9 (by omega) (by omega) st g]) rfl rfl g
end K45

set_option Elab.async false
set_option linter.all false
set_option autoImplicit false
set_option maxRecDepth 100000
namespace K45
open PySem Mi
def out (lot : List Nat) (x : Nat) : Bool := decide (x ∉ lot)
def nbr (w : List (List Nat)) (i : Nat) : List Nat := w.getD i []
theorem belows_nsD' (n : Nat) (xs : List Nat) : belows n (nsD xs) = true := belows_nsD n xs
theorem itemAt_nsD (xs : List Nat) (k : Nat) (h : k < xs.length) : itemAt (nsD xs) (k : Int) = some (dN (xs.getD k 0)) := by
  rw [atI_nat _ _ (by rw [nsD_len]; exact h)]
  unfold nsD
  rw [List.getElem?_map, List.getElem?_eq_getElem h, List.getD_eq_getElem?_getD, List.getElem?_eq_getElem h]
  rfl
theorem itemAt_wD (w : List (List Nat)) (k : Nat) (h : k < w.length) : itemAt (w.map nums) (k : Int) = some (nums (nbr w k)) := by
  rw [atI_nat _ _ (by rw [List.length_map]; exact h), List.getElem?_map, List.getElem?_eq_getElem h]
  unfold nbr
  rw [List.getD_eq_getElem?_getD, List.getElem?_eq_getElem h]
  rfl
theorem Fd.one {m : Nat} {S : Nat → Prop} {p : Nat} (hp : p < m) (hs : S p) : Fd m S [p] := ⟨List.nodup_cons.mpr ⟨List.not_mem_nil, List.nodup_nil⟩, fun x hx => by rw [List.mem_singleton.mp hx]; exact ⟨hp, hs⟩⟩
/-- the walk of found_from -/
theorem found_loop (w : List (List Nat)) (hm : w.length ≤ 9) (S : Nat → Prop) (hn : Nb w.length S (nbr w)) (p : D) (base : Store) : ∀ (n a : Nat) (fd r : List Nat) (x : Option D), Fd w.length S fd → grow (nbr w) n a fd = some r →
    ∃ x' a', whN (tCmp dLt (eVar 3) (eU' gLen (eVar 2))) (sSeq (sExt (eVar 2) (eL (lComp (iOf (eIx (eVar 0) (eIx (eVar 2) (eVar 3)))) (gVar 4) (tCmp dNotIn (eVar 4) (eVar 2)) (eVar 4) [4]))) (sAug 3 oAddI (eC (.int 1)))) n
      [some (wD w), some p, some (.loc base.length), some (dN a), x] (base ++ [.lst (nsD fd)]) = some (.nx [some (wD w), some p, some (.loc base.length), a', x'] (base ++ [.lst (nsD r)]))
  | 0, a, fd, r, x, _, h => by cases h
  | n + 1, a, fd, r, x, hf, h => by
    unfold grow at h
    have hg : (base ++ [O.lst (nsD fd)])[base.length]? = some (.lst (nsD fd)) := by rw [List.getElem?_append_right (Nat.le_refl _), Nat.sub_self]; rfl
    have hlen : gLen (base ++ [O.lst (nsD fd)]) (.loc base.length) = some (.int fd.length) := by
      unfold gLen dLen
      simp [hg]
    by_cases ha : a < fd.length
    · rw [if_pos ha] at h
      have hi := hf.lt _ (getD_mem ha)
      have hfl := hf.len
      have hmore := hf.more hn ha
      have e1 := itemAt_nsD fd a ha
      have e2 := itemAt_wD w _ hi.1
      generalize fd.getD a 0 = q at *
      have hc : lComp (iOf (eIx (eVar 0) (eIx (eVar 2) (eVar 3)))) (gVar 4) (tCmp dNotIn (eVar 4) (eVar 2)) (eVar 4) [4] [some (wD w), some p, some (.loc base.length), some (dN a), x] (base ++ [O.lst (nsD fd)]) = some (.ok (((nbr w q).filter fun x => decide (x ∉ fd)).map dN) (base ++ [O.lst (nsD fd)])) := by
        have hnl : (nbr w q).length ≤ w.length := by
          have := List.Nodup.length_le_of_subset (hn.nd _) (l₂ := List.range w.length) fun x hx => List.mem_range.mpr (hn.lt _ hi.2 x hx).1
          rwa [List.length_range] at this
        refine lComp_pure dN (fun y => [some (wD w), some p, some (.loc base.length), some (dN a), some (dN y)]) _ dN (nbr w q) ?_ ?_ ?_ ?_ ?_
        · simp [hg, e1, e2]; rfl
        · intro y _; simp
        · intro y _
          have := dNotIn_nsD (base ++ [O.lst (nsD fd)]) y (.loc base.length) fd (by simp [hg])
          simp [this]
        · intro y _ _; simp
        · exact okLen_of (by omega)
      generalize (nbr w q).filter (fun x => decide (x ∉ fd)) = L at *
      have hml := hmore.len
      obtain ⟨x', a', ih⟩ := found_loop w hm S hn p base n (a + 1) _ r x hmore h
      refine ⟨x', a', ?_⟩
      refine (wh_yes (σ1 := [some (wD w), some p, some (.loc base.length), some (dN (a + 1)), x]) (st2 := base ++ [O.lst (nsD (fd ++ L))]) (st1 := base ++ [O.lst (nsD fd)]) ?_ ?_).trans ih
      · simp [hlen, ha]
      · rw [List.length_append] at hml
        have hok : okLen (fd.length + L.length) = true := okLen_of (by omega)
        simp [hc, hg, hok]
        simp [nsD]
    · rw [if_neg ha] at h
      cases h
      refine ⟨x, some (dN a), wh_no (st1 := base ++ [O.lst (nsD fd)]) ?_⟩
      simp [hlen]
      omega
theorem x_while (n : Nat) (c : T) (b : S) (σ : Mi.Env) (st : Store) : sWhile n c b σ st = whN c b n σ st := rfl
theorem found_from_ok (w : List (List Nat)) (hm : w.length ≤ 9) (S : Nat → Prop) (hn : Nb w.length S (nbr w)) (p : Nat) (hp : p < w.length) (hs : S p) (st : Store) (g : Good st) : f_found_from [wD w, dN p] st = some (.ok (.lst (nsD (bfs (nbr w) p))) st) := by
  obtain ⟨e, hf⟩ := bfs_ok hn hp hs hm
  obtain ⟨x', a', hw⟩ := found_loop w hm S hn (dN p) st fuel 0 [p] _ none (Fd.one hp hs) e
  refine scp_new (k := 0) (ext := [O.lst (nsD (bfs (nbr w) p))]) ?_ rfl (belows_nsD _ _) g
  refine runB_rt ?_
  unfold b_found_from
  rw [seq_nx (σ1 := [some (wD w), some (dN p), some (.loc st.length), none, none]) (st1 := st ++ [.lst (nsD [p])])]
  · rw [seq_nx (σ1 := [some (wD w), some (dN p), some (.loc st.length), some (dN 0), none]) (st1 := st ++ [.lst (nsD [p])])]
    · rw [seq_nx ((x_while ..).trans hw)]
      simp
    · simp
  · simp [nsD]
theorem raw_finds_ok (w : List (List Nat)) (hm : w.length ≤ 9) (hN : Nb w.length (fun x => x < w.length) (nbr w)) (st : Store) (g : Good st) : f_raw_finds [wD w] st = some (.ok (wD ((List.range w.length).map fun p => sortN (bfs (nbr w) p))) st) := by
  refine scp_same (runB_rt (ret_ok (U_ok (L_ok (lComp_all dN (fun p => [some (wD w), some (dN p)]) (fun p => nums (sortN (bfs (nbr w) p))) (List.range w.length) ?_ ?_ ?_ ?_)) ?_))) rfl (belows_wD _ _) g
  · have hs : small62 (w.length : Int) = true := small_nat _ (by omega)
    simp [hs, rangeD_0, nsD]
  · intro p _; simp
  · intro p hp
    have hp := List.mem_range.mp hp
    have hb := (bfs_ok (S := fun x => x < w.length) hN hp hp hm).2.len
    have := found_from_ok w hm _ hN p hp hp st g
    have hs := sortD_nat (st := st) (bfs (nbr w) p) (okLen_of (by omega))
    refine U_ok (L_ok (sorted_ok (x := .lst (nsD (bfs (nbr w) p))) ?_ rfl hs)) rfl
    simp [this]
  · exact okLen_of (by rw [List.length_range]; omega)
  · simp
theorem itemAt_wmap (f : Nat → List Nat) (m k : Nat) (h : k < m) : itemAt ((List.range m).map fun p => nums (f p)) (k : Int) = some (nums (f k)) := by
  rw [atI_nat _ _ (by simpa using h), List.getElem?_map, List.getElem?_range h]
  rfl
/-- without_people -/
def wo (w : List (List Nat)) (lot : List Nat) : List (List Nat) := (w.map fun p => p.filter (out lot)).zipIdx.map fun p => if p.2 ∈ lot then [] else p.1
theorem wo_len (w : List (List Nat)) (lot : List Nat) : (wo w lot).length = w.length := by simp [wo]
theorem nbr_wo (w : List (List Nat)) (lot : List Nat) (i : Nat) : nbr (wo w lot) i = if i ∈ lot then [] else (nbr w i).filter (out lot) := by
  unfold nbr wo
  rw [List.getD_eq_getElem?_getD, List.getD_eq_getElem?_getD, List.getElem?_map, List.getElem?_zipIdx, List.getElem?_map]
  rcases w[i]? with _ | p
  · simp
  · simp
theorem without_people_ok (w : List (List Nat)) (hm : w.length ≤ 9) (hp : ∀ p ∈ w, p.length ≤ 9) (lot : List Nat) (st : Store) (g : Good st) : f_without_people [wD w, nums lot] st = some (.ok (wD (wo w lot)) st) := by
  refine scp_same (runB_rt ?_) rfl (belows_wD _ _) g
  unfold b_without_people
  have h1 : lComp (iOf (eVar 0)) (gVar 4) tYes (eU' Mi.gTup (eL (lComp (iOf (eVar 4)) (gVar 3) (tCmp dNotIn (eVar 3) (eVar 1)) (eVar 3) [3]))) [4] [some (wD w), some (nums lot), none, none, none, none] st = some (.ok (w.map fun p => nums (p.filter (out lot))) st) := by
    refine lComp_all nums (fun p => [some (wD w), some (nums lot), none, none, some (nums p), none]) _ w ?_ ?_ ?_ (okLen_of (by omega))
    · simp
    · intro p _; simp
    · intro p hpw
      refine U_ok (L_ok (lComp_pure dN (fun x => [some (wD w), some (nums lot), none, some (dN x), some (nums p), none]) _ dN p ?_ ?_ (fun x _ => ?_) ?_ (okLen_of (by have := hp p hpw; omega)))) rfl
      · simp; rfl
      · intro x _; simp
      · have := dNotIn_nsD st x (nums lot) lot rfl
        simp [this, out]
      · intro x _ _; simp
  have h2 : lComp (iEnum (eVar 2)) (gSet2 5 4) tYes (eIf (tCmp dIn (eVar 5) (eVar 1)) (eTup eNil) (eVar 4)) [4, 5] [some (wD w), some (nums lot), some (.lst (w.map fun p => nums (p.filter (out lot)))), none, none, none] st = some (.ok ((wo w lot).map nums) st) := by
    unfold wo
    rw [List.map_map]
    refine lComp_all (fun p : List Nat × Nat => D.tup [dN p.2, nums p.1]) (fun p => [some (wD w), some (nums lot), some (.lst (w.map fun p => nums (p.filter (out lot)))), none, some (nums p.1), some (dN p.2)]) _ _ ?_ ?_ ?_ (okLen_of (by simp; omega))
    · have := enum_map nums (w.map fun p => p.filter (out lot)) 0
      rw [List.map_map] at this
      simp only [Function.comp_def] at this
      simp [this]
    · intro p _; simp
    · intro p _
      have := dIn_nsD st p.2 (nums lot) lot rfl
      by_cases h : p.2 ∈ lot
      · simp [this, h, nsD]
      · simp [this, h]
  refine (seq_nx (set_ok (L_ok h1) (by simp))).trans ?_
  exact ret_ok (U_ok (L_ok h2) rfl)
def leftOf (w : List (List Nat)) (lot : List Nat) : List Nat := (List.range w.length).filter (out lot)
theorem hangs_ok (w : List (List Nat)) (hm : w.length ≤ 9) (hp : ∀ p ∈ w, p.length ≤ 9) (lot : List Nat) (hN : Nb w.length (fun x => x < w.length) (nbr (wo w lot))) (st : Store) (g : Good st) :
    f_hangs_together [wD w, nums lot] st = some (.ok (.bl ((leftOf w lot).all fun p => decide (sortN (bfs (nbr (wo w lot)) p) = leftOf w lot))) st) := by
  refine scp_same (runB_rt ?_) rfl rfl g
  unfold b_hangs_together
  have hr := raw_finds_ok (wo w lot) (by rw [wo_len]; exact hm) (by rw [wo_len]; exact hN) st g
  rw [wo_len] at hr
  have h1 : lComp (iRange (eU' gLen (eVar 0))) (gVar 4) (tCmp dNotIn (eVar 4) (eVar 1)) (eVar 4) [4] [some (wD w), some (nums lot), none, none, none] st = some (.ok ((leftOf w lot).map dN) st) := by
    refine lComp_pure dN (fun p => [some (wD w), some (nums lot), none, none, some (dN p)]) _ dN (List.range w.length) ?_ ?_ ?_ ?_ (okLen_of (by simp; omega))
    · have hs : small62 (w.length : Int) = true := small_nat _ (by omega)
      simp [hs, rangeD_0, nsD]
    · intro p _; simp
    · intro p _
      have := dNotIn_nsD st p (nums lot) lot rfl
      simp [this, out]
    · intro p _ _; simp
  refine (seq_nx (set_ok (U_ok (L_ok h1) rfl) (by simp))).trans ?_
  rw [seq_nx (σ1 := [some (wD w), some (nums lot), some (nums (leftOf w lot)), some (wD ((List.range w.length).map fun p => sortN (bfs (nbr (wo w lot)) p))), none]) (st1 := st)]
  · refine ret_ok (U_ok (L_ok (lComp_all dN (fun p => [some (wD w), some (nums lot), some (nums (leftOf w lot)), some (wD ((List.range w.length).map fun p => sortN (bfs (nbr (wo w lot)) p))), some (dN p)]) _ (leftOf w lot) ?_ ?_ ?_ ?_)) (gAll_map st _ _))
    · simp; rfl
    · intro p _; simp
    · intro p hpl
      have hp := List.mem_range.mp (List.mem_filter.mp hpl).1
      have := itemAt_wmap (fun p => sortN (bfs (nbr (wo w lot)) p)) w.length p hp
      simp [Function.comp_def, this]
    · refine okLen_of ?_
      have := List.length_filter_le (out lot) (List.range w.length)
      rw [List.length_range] at this
      unfold leftOf; omega
  · have hw := without_people_ok w hm hp lot st g
    simp [hw, hr, nsD]
end K45

set_option Elab.async false
set_option linter.all false
set_option autoImplicit false
set_option maxRecDepth 100000
namespace K45
open PySem Mi
theorem itemAt_last (l : List Nat) (x : Nat) : itemAt (nsD (l ++ [x])) (-1) = some (dN x) := by
  unfold itemAt L2.atI L2.ixN
  rw [nsD_len, if_neg (by decide), if_pos (by simp; omega)]
  have : (-1 + ((l ++ [x]).length : Int)).toNat = l.length := by simp; omega
  rw [Option.bind_some, this]
  simp [nsD]
theorem beg_nil : beg [] = 0 := rfl
theorem beg_last (l : List Nat) (x : Nat) : beg (l ++ [x]) = x + 1 := by
  unfold beg
  rw [List.getLast?_concat]
theorem beg_le {n : Nat} {lot : List Nat} (h : ∀ x ∈ lot, x < n) : beg lot ≤ n := by
  rcases List.eq_nil_or_concat lot with rfl | ⟨l, x, rfl⟩
  · exact Nat.zero_le _
  · rw [List.concat_eq_append] at *
    rw [beg_last]
    exact h x (by simp)
theorem getX (base : Store) (o : O) (r : Store) : (base ++ o :: r)[base.length]? = some o := by
  rw [List.getElem?_append_right (Nat.le_refl _), Nat.sub_self]; rfl
theorem setX (base : Store) (o o' : O) (r : Store) : (base ++ o :: r).set base.length o' = base ++ o' :: r := by
  rw [List.set_append_right _ _ (Nat.le_refl _), Nat.sub_self]; rfl
def inner : S := (sSeq (sSet 7 (eIf (tCmp dGt (eU' gLen (eVar 6)) (eC (.int 0))) (eBin oAdd (eIx (eVar 6) (eNeg (eC (.int 1)))) (eC (.int 1))) (eC (.int 0))))
      (sExt (eVar 5) (eL (lComp (iRange2 (eVar 7) (eVar 0)) (gVar 8) tYes (eBin oAdd (eVar 6) (eTup (eCons (eVar 8) eNil))) [8]))))
theorem inner_step (n : Nat) (hn : n ≤ 9) (m fo lo si b c : Option D) (base : Store) (acc : List (List Nat)) (lot : List Nat) (h1 : lot.length ≤ 9) (h2 : ∀ x ∈ lot, x < n) (hl : (acc ++ nextL n lot).length ≤ 1000) :
    ∃ b', inner [some (dN n), m, fo, lo, si, some (.loc base.length), some (nums lot), b, c] (base ++ [.lst (acc.map nums)]) = some (.nx [some (dN n), m, fo, lo, si, some (.loc base.length), some (nums lot), b', c] (base ++ [.lst ((acc ++ nextL n lot).map nums)])) := by
  refine ⟨some (dN (beg lot)), ?_⟩
  unfold inner
  rw [seq_nx (σ1 := [some (dN n), m, fo, lo, si, some (.loc base.length), some (nums lot), some (dN (beg lot)), c]) (st1 := base ++ [.lst (acc.map nums)])]
  · have hb := beg_le h2
    have hc : lComp (iRange2 (eVar 7) (eVar 0)) (gVar 8) tYes (eBin oAdd (eVar 6) (eTup (eCons (eVar 8) eNil))) [8] [some (dN n), m, fo, lo, si, some (.loc base.length), some (nums lot), some (dN (beg lot)), c] (base ++ [.lst (acc.map nums)]) = some (.ok ((nextL n lot).map nums) (base ++ [.lst (acc.map nums)])) := by
      unfold nextL
      rw [List.map_map]
      refine lComp_all dN (fun p => [some (dN n), m, fo, lo, si, some (.loc base.length), some (nums lot), some (dN (beg lot)), some (dN p)]) _ _ ?_ ?_ ?_ (okLen_le (by simp; omega))
      · have s1 := small_nat (beg lot) (by omega)
        have s2 := small_nat n (by omega)
        simp [s1, s2, rangeD_nat]; simp [nsD]
      · intro p _; simp
      · intro p _
        have : okLen (lot.length + 1) = true := okLen_le (by omega)
        simp [this]
        simp [nsD]
    have hg := getX base (.lst (acc.map nums)) []
    rw [List.length_append] at hl
    have hok : okLen (acc.length + (nextL n lot).length) = true := okLen_le hl
    have hs := setX base (.lst (acc.map nums)) (.lst ((acc ++ nextL n lot).map nums)) []
    rw [List.map_append] at hs
    rw [ext_ok (l := base.length) (ds0 := acc.map nums) (ds := acc.map nums) (xs := (nextL n lot).map nums) (d := .lst ((nextL n lot).map nums)) (st1 := base ++ [.lst (acc.map nums)]) (by simp) hg (L_ok hc) rfl hg (by rw [List.length_map, List.length_map]; exact hok), hs]
    rw [List.map_append]
  · rcases List.eq_nil_or_concat lot with rfl | ⟨l, x, rfl⟩
    · simp [beg_nil, nsD]
    · rw [List.concat_eq_append] at *
      have e := itemAt_last l x
      rw [beg_last]
      simp [e]
theorem inner_loop (n : Nat) (hn : n ≤ 9) (m fo lo si a b c : Option D) (base : Store) (ls : List (List Nat)) (hls : ∀ l ∈ ls, l.length ≤ 9 ∧ ∀ x ∈ l, x < n) (hl : (ls.flatMap (nextL n)).length ≤ 1000) (hlo : lo = some (.lst (ls.map nums)) ∨ ∃ l, lo = some (.loc l) ∧ base[l]? = some (.lst (ls.map nums))) :
    ∃ a' b' c', sFor (iOf (eVar 3)) (gVar 6) inner [some (dN n), m, fo, lo, si, some (.loc base.length), a, b, c] (base ++ [.lst []]) = some (.nx [some (dN n), m, fo, lo, si, some (.loc base.length), a', b', c'] (base ++ [.lst ((ls.flatMap (nextL n)).map nums)])) := by
  have step : ∀ (p : List (List Nat)) (x : List Nat) (q : List (List Nat)) (σ : Mi.Env) (st : Store), p ++ x :: q = ls → (∃ a b c, σ = [some (dN n), m, fo, lo, si, some (.loc base.length), a, b, c] ∧ st = base ++ [.lst ((p.flatMap (nextL n)).map nums)]) → ∃ σ1 σ2 st2, gVar 6 (nums x) σ = some σ1 ∧ inner σ1 st = some (.nx σ2 st2) ∧ (∃ a b c, σ2 = [some (dN n), m, fo, lo, si, some (.loc base.length), a, b, c] ∧ st2 = base ++ [.lst (((p ++ [x]).flatMap (nextL n)).map nums)]) := by
    rintro p x q σ st e ⟨a, b, c, rfl, rfl⟩
    have hx := hls x (by rw [← e]; simp)
    have hlen : (p.flatMap (nextL n) ++ nextL n x).length ≤ 1000 := by
      rw [← e, List.flatMap_append, List.flatMap_cons, ← List.append_assoc, List.length_append] at hl
      omega
    obtain ⟨b', hs⟩ := inner_step n hn m fo lo si b c base (p.flatMap (nextL n)) x hx.1 hx.2 hlen
    refine ⟨_, _, _, by simp, hs, some (nums x), b', c, rfl, ?_⟩
    rw [List.flatMap_append]
    simp
  rcases hlo with rfl | ⟨l, rfl, hg⟩
  · obtain ⟨σ', st', e, a', b', c', rfl, rfl⟩ := forFix_ind (g := gVar 6) (b := inner) nums (fun p σ st => ∃ a b c, σ = [some (dN n), m, fo, some (.lst (ls.map nums)), si, some (.loc base.length), a, b, c] ∧ st = base ++ [.lst ((p.flatMap (nextL n)).map nums)]) ls [] [some (dN n), m, fo, some (.lst (ls.map nums)), si, some (.loc base.length), a, b, c] (base ++ [.lst []]) (fun p x q σ st e i => step p x q σ st e i) ⟨a, b, c, rfl, rfl⟩
    exact ⟨a', b', c', (for_fix (ds := ls.map nums) (st1 := base ++ [O.lst []]) (by simp)).trans e⟩
  · have hlt : l < base.length := (List.getElem?_eq_some_iff.mp hg).1
    have hg' : ∀ o, (base ++ [o])[l]? = some (.lst (ls.map nums)) := fun o => by rw [List.getElem?_append_left hlt]; exact hg
    obtain ⟨σ', st', e, a', b', c', rfl, rfl⟩ := forLive_ind (g := gVar 6) (b := inner) (l := l) nums (fun p σ st => ∃ a b c, σ = [some (dN n), m, fo, some (.loc l), si, some (.loc base.length), a, b, c] ∧ st = base ++ [.lst ((p.flatMap (nextL n)).map nums)]) ls ls [] [some (dN n), m, fo, some (.loc l), si, some (.loc base.length), a, b, c] (base ++ [.lst []]) rfl (fun p σ st i => by obtain ⟨_, _, _, _, rfl⟩ := i; exact hg' _) (fun p x q σ st e i => step p x q σ st e i) ⟨a, b, c, rfl, rfl⟩
    exact ⟨a', b', c', (for_live (l := l) (n := ls.length) (st1 := base ++ [O.lst []]) (by simp [hg'])).trans (by simpa using e)⟩
def lens (n j : Nat) : Store := (List.range j).map fun i => O.lst ((levels n (i + 1)).map nums)
theorem lens_succ (n j : Nat) : lens n (j + 1) = lens n j ++ [O.lst ((levels n (j + 1)).map nums)] := by
  unfold lens
  rw [List.range_succ, List.map_append]; rfl
def upI (n k : Nat) (st : Store) (p : List Nat) (σ : Mi.Env) (s : Store) : Prop := ∃ lo a1 a2 a3 a4 a5, σ = [some (dN n), some (dN k), some (.loc st.length), lo, a1, a2, a3, a4, a5] ∧ s = st ++ (O.lst ((upTo n p.length).map nums) :: lens n p.length) ∧
      (lo = some (.lst ((levels n p.length).map nums)) ∨ ∃ l, lo = some (.loc l) ∧ (st ++ (O.lst ((upTo n p.length).map nums) :: lens n p.length))[l]? = some (.lst ((levels n p.length).map nums)))
def outer : S := sSeq (sSet 5 (eNew (lDisp eNil))) (sSeq (sFor (iOf (eVar 3)) (gVar 6) inner) (sSeq (sExt (eVar 2) (eVar 5)) (sSet 3 (eVar 5))))
theorem outer_step (n k : Nat) (hn : n < 9) (hk : k < 10) (st : Store) (p : List Nat) (x : Nat) (q : List Nat) (σ : Mi.Env) (s : Store) (e : p ++ x :: q = [] ++ List.range (min n k)) (i0 : upI n k st p σ s) : ∃ σ1 σ2 st2, gVar 4 (dN x) σ = some σ1 ∧ outer σ1 s = some (.nx σ2 st2) ∧ upI n k st (p ++ [x]) σ2 st2 := by
  obtain ⟨_, _, _, F⟩ := lots_facts n hn
  obtain ⟨lo, a1, a2, a3, a4, a5, rfl, rfl, hlo⟩ := i0
  have hj : p.length < min n k := by
    have := congrArg List.length e
    simp at this
    omega
  obtain ⟨_, _, _, G⟩ := F p.length (by omega)
  obtain ⟨_, f1, f2, _⟩ := F (p.length + 1) (by omega)
  have G : ∀ l ∈ levels n p.length, l.length ≤ 9 ∧ ∀ x ∈ l, x < n := fun l hl => by
    have := List.all_eq_true.mp G l hl
    rw [Bool.and_eq_true] at this
    exact ⟨of_decide_eq_true this.1, fun y hy => of_decide_eq_true (List.all_eq_true.mp this.2 y hy)⟩
  obtain ⟨b1, b2, b3, he⟩ := inner_loop n (by omega) (some (dN k)) (some (.loc st.length)) lo (some (dN x)) a3 a4 a5 (st ++ (O.lst ((upTo n p.length).map nums) :: lens n p.length)) (levels n p.length) G f1 hlo
  refine ⟨_, _, _, by simp; rfl, ?_, some (.loc (st ++ (O.lst ((upTo n p.length).map nums) :: lens n p.length)).length), some (dN x), some (.loc (st ++ (O.lst ((upTo n p.length).map nums) :: lens n p.length)).length), b1, b2, b3, rfl, rfl, .inr ⟨_, rfl, ?_⟩⟩
  · unfold outer
    rw [seq_nx (σ1 := [some (dN n), some (dN k), some (.loc st.length), lo, some (dN x), some (.loc (st ++ (O.lst ((upTo n p.length).map nums) :: lens n p.length)).length), a3, a4, a5]) (st1 := (st ++ (O.lst ((upTo n p.length).map nums) :: lens n p.length)) ++ [.lst []]) (by simp)]
    rw [seq_nx he]
    have g1 : (st ++ (O.lst ((upTo n p.length).map nums) :: lens n p.length) ++ [O.lst ((levels n (p.length + 1)).map nums)])[st.length]? = some (O.lst ((upTo n p.length).map nums)) := by
      rw [List.append_assoc]; exact getX _ _ _
    have g2 := getX (st ++ (O.lst ((upTo n p.length).map nums) :: lens n p.length)) (O.lst ((levels n (p.length + 1)).map nums)) []
    have hok : okLen ((upTo n p.length).length + (levels n (p.length + 1)).length) = true := okLen_le (by
      have : (upTo n (p.length + 1)).length = (upTo n p.length).length + (levels n (p.length + 1)).length := List.length_append ..
      omega)
    rw [seq_nx (σ1 := [some (dN n), some (dN k), some (.loc st.length), lo, some (dN x), some (.loc (st ++ (O.lst ((upTo n p.length).map nums) :: lens n p.length)).length), b1, b2, b3]) (st1 := st ++ (O.lst ((upTo n (p ++ [x]).length).map nums) :: lens n (p ++ [x]).length))]
    · simp
    · show sExt (eVar 2) (eVar 5) _ (st ++ (O.lst ((upTo n p.length).map nums) :: lens n p.length) ++ [O.lst ((levels n (p.length + 1)).map nums)]) = _
      generalize hB : st ++ (O.lst ((upTo n p.length).map nums) :: lens n p.length) = B at *
      rw [ext_ok (l := st.length) (ds0 := (upTo n p.length).map nums) (ds := (upTo n p.length).map nums) (xs := (levels n (p.length + 1)).map nums) (d := .loc B.length) (st1 := B ++ [O.lst ((levels n (p.length + 1)).map nums)]) (by simp) g1 (by simp) (by rw [w_loc', g2]) g1 (by rw [List.length_map, List.length_map]; exact hok)]
      rw [← hB, List.append_assoc, List.cons_append, setX, ← lens_succ, ← List.map_append, show (p ++ [x]).length = p.length + 1 by simp]
      rfl
  · rw [List.length_append]
    show (st ++ (O.lst ((upTo n (p.length + 1)).map nums) :: lens n (p.length + 1)))[_]? = _
    rw [lens_succ, ← List.cons_append, ← List.append_assoc]
    have := getX (st ++ (O.lst ((upTo n (p.length + 1)).map nums) :: lens n p.length)) (O.lst ((levels n (p.length + 1)).map nums)) []
    rw [show (st ++ (O.lst ((upTo n p.length).map nums) :: lens n p.length)).length = (st ++ (O.lst ((upTo n (p.length + 1)).map nums) :: lens n p.length)).length by simp]
    exact this
theorem lots_up_to_ok (n k : Nat) (hn : n < 9) (hk : k < 10) (st : Store) (g : Good st) : f_lots_up_to [dN n, dN k] st = some (.ok (.lst ((upTo n (min n k)).map nums)) st) := by
  obtain ⟨_, _, _, F⟩ := lots_facts n hn
  refine scp_new (k := 0) (ext := O.lst ((upTo n (min n k)).map nums) :: lens n (min n k)) ?_ rfl (belows_map _ _ (below_nums _) _) g
  refine runB_rt ?_
  unfold b_lots_up_to
  rw [seq_nx (σ1 := [some (dN n), some (dN k), some (.loc st.length), none, none, none, none, none, none]) (st1 := st ++ [.lst [nums []]]) (by simp [nsD])]
  rw [seq_nx (σ1 := [some (dN n), some (dN k), some (.loc st.length), some (.lst [nums []]), none, none, none, none, none]) (st1 := st ++ [.lst [nums []]]) (by simp [nsD])]
  have hmin : (if (k : Int) < (n : Int) then (k : Int) else (n : Int)) = ((min n k : Nat) : Int) := by
    by_cases h : k < n
    · rw [if_pos (by omega)]; omega
    · rw [if_neg (by omega)]; omega
  obtain ⟨σ', st', e, lo, a1, a2, a3, a4, a5, rfl, rfl, _⟩ := forFix_ind (g := gVar 4) (b := outer) dN (upI n k st) (List.range (min n k)) [] [some (dN n), some (dN k), some (.loc st.length), some (.lst [nums []]), none, none, none, none, none] (st ++ [.lst [nums []]]) (outer_step n k hn hk st) ⟨_, _, _, _, _, _, rfl, rfl, .inl rfl⟩
  · have hs : small62 ((min n k : Nat) : Int) = true := small_nat _ (by omega)
    have e2 := (for_fix (s := iRange (eBin oMin (eVar 0) (eVar 1))) (ds := (List.range (min n k)).map dN) (st1 := st ++ [.lst [nums []]]) (by simp only [x_iRange, x_bin, x_bnd, x_var, List.getElem?_cons_zero, List.getElem?_cons_succ, x_need, z_min, hmin, hs, rangeD_0, if_true]; rfl)).trans e
    refine (seq_nx (show sFor _ _ outer _ _ = _ from e2)).trans ?_
    simp
end K45

set_option Elab.async false
set_option linter.all false
set_option autoImplicit false
set_option maxRecDepth 100000
namespace K45
open PySem Mi
def hang (w : List (List Nat)) (lot : List Nat) : Bool := (leftOf w lot).all fun p => decide (sortN (bfs (nbr (wo w lot)) p) = leftOf w lot)
theorem Web.nb {w : List (List Nat)} (h : Web w) : Nb w.length (fun x => x < w.length) (nbr w) := by
  have key : ∀ i, nbr w i ∈ w ∨ nbr w i = [] := fun i => by
    unfold nbr
    rw [List.getD_eq_getElem?_getD]
    by_cases hi : i < w.length
    · rw [List.getElem?_eq_getElem hi]; exact .inl (List.getElem_mem hi)
    · rw [List.getElem?_eq_none (by omega)]; exact .inr rfl
  refine ⟨fun i => ?_, fun i _ x hx => ?_⟩
  · rcases key i with k | k
    · exact (h.asc _ k).imp fun h => Nat.ne_of_lt h
    · rw [k]; exact List.nodup_nil
  · rcases key i with k | k
    · exact ⟨h.lt _ k x hx, h.lt _ k x hx⟩
    · rw [k] at hx; cases hx
theorem Web.short {w : List (List Nat)} (h : Web w) : ∀ p ∈ w, p.length ≤ 9 := fun p hp => by
  have := List.Nodup.length_le_of_subset ((h.asc p hp).imp fun h => Nat.ne_of_lt h) (l₂ := List.range w.length) fun x hx => List.mem_range.mpr (h.lt p hp x hx)
  rw [List.length_range] at this
  have := h.hi
  omega
theorem nb_wo {w : List (List Nat)} (h : Web w) (lot : List Nat) : Nb w.length (fun x => x < w.length) (nbr (wo w lot)) := by
  have hn := h.nb
  refine ⟨fun i => ?_, fun i hi x hx => ?_⟩
  · rw [nbr_wo]
    split
    · exact List.nodup_nil
    · exact (hn.nd i).sublist List.filter_sublist
  · rw [nbr_wo] at hx
    split at hx
    · cases hx
    · exact hn.lt i hi x (List.mem_filter.mp hx).1
theorem hangs_ok' (w : List (List Nat)) (h : Web w) (lot : List Nat) (st : Store) (g : Good st) : f_hangs_together [wD w, nums lot] st = some (.ok (.bl (hang w lot)) st) :=
  hangs_ok w (by have := h.hi; omega) h.short lot (nb_wo h lot) st g
def optD : Option (List Nat) → D
  | none => .non
  | some l => nums l
def fw (w : List (List Nat)) (k : Nat) : Option (List Nat) := (upTo w.length (min w.length k)).find? fun l => !hang w l
theorem step_bad (F : Fn) (X Y Z : D) (c : Bool) (st : Store) (hh : F [Y, X] st = some (.ok (.bl c) st)) : sIf (tNot (tE (eCall F (eCons (eVar 0) (eCons (eVar 2) eNil))))) (sRet (eVar 2)) sSkip [some Y, some Z, some X] st = if (!c) = true then some (.rt X st) else some (.nx [some Y, some Z, some X] st) := by
  cases c <;> simp [hh]
theorem first_weak_ok (w : List (List Nat)) (h : Web w) (k : Nat) (hk : k < 10) (st : Store) (g : Good st) : f_first_weak [wD w, dN k] st = some (.ok (optD (fw w k)) st) := by
  have hu := lots_up_to_ok w.length k (by have := h.hi; omega) hk st g
  have key : ∀ (xs : List (List Nat)) (c : Option D), (match xs.find? (fun l => !hang w l) with | some x => forFix (gVar 2) (sIf (tNot (tE (eCall f_hangs_together (eCons (eVar 0) (eCons (eVar 2) eNil))))) (sRet (eVar 2)) sSkip) (xs.map nums) [some (wD w), some (dN k), c] st = some (.rt (nums x) st) | none => ∃ c', forFix (gVar 2) (sIf (tNot (tE (eCall f_hangs_together (eCons (eVar 0) (eCons (eVar 2) eNil))))) (sRet (eVar 2)) sSkip) (xs.map nums) [some (wD w), some (dN k), c] st = some (.nx [some (wD w), some (dN k), c'] st)) := by
    intro xs
    induction xs with
    | nil => intro c; exact ⟨c, rfl⟩
    | cons x xs ih =>
      intro c
      have hh := hangs_ok' w h x st g
      have hb : sIf (tNot (tE (eCall f_hangs_together (eCons (eVar 0) (eCons (eVar 2) eNil))))) (sRet (eVar 2)) sSkip [some (wD w), some (dN k), some (nums x)] st = if (!hang w x) = true then some (.rt (nums x) st) else some (.nx [some (wD w), some (dN k), some (nums x)] st) := by
        exact step_bad _ _ _ _ _ st hh
      cases hx : hang w x with
      | false =>
        rw [List.find?_cons_of_pos (by simp [hx]), List.map_cons]
        rw [hx] at hb
        exact forFix_rt (σ2 := []) (by simp) hb
      | true =>
        rw [List.find?_cons_of_neg (by simp [hx]), List.map_cons]
        rw [hx] at hb
        rw [forFix_nx (σ1 := [some (wD w), some (dN k), some (nums x)]) (by simp) hb]
        exact ih (some (nums x))
  have hb : below st.length (optD (fw w k)) = true := by
    cases fw w k with
    | none => rfl
    | some l => exact below_nums _ _
  have hl : isLoc (optD (fw w k)) = false := by cases fw w k <;> rfl
  refine scp_same (runB_rt ?_) hl hb g
  unfold b_first_weak
  have e1 : iOf (eCall f_lots_up_to (eCons (eU' gLen (eVar 0)) (eCons (eVar 1) eNil))) [some (wD w), some (dN k), none] st = some (.ok (.fix ((upTo w.length (min w.length k)).map nums)) st) := by
    exact iOf_lst (call_to (ds := [dN w.length, dN k]) (by simp) hu)
  have K := key (upTo w.length (min w.length k)) none
  unfold fw
  cases hx : (upTo w.length (min w.length k)).find? (fun l => !hang w l) with
  | some x =>
    rw [hx] at K
    exact seq_rt ((for_fix e1).trans K)
  | none =>
    rw [hx] at K
    obtain ⟨c', K⟩ := K
    refine (seq_nx ((for_fix e1).trans K)).trans ?_
    simp [optD]
theorem optD_non (o : Option (List Nat)) : isNon (optD o) = o.isNone := by cases o <;> rfl
theorem firm_ok (w : List (List Nat)) (h : Web w) (k : Nat) (hk : k < 10) (st : Store) (g : Good st) : f_firm [wD w, dN k] st = some (.ok (.bl (fw w k).isNone) st) :=
  scp_same (by simp [b_firm, check_asked_ok w k h (by omega) st g, first_weak_ok w h k hk st g, optD_non]; simp [isNon]) rfl rfl g
theorem weak_ok (w : List (List Nat)) (h : Web w) (k : Nat) (hk : k < 10) (st : Store) (g : Good st) : f_weak [wD w, dN k] st = some (.ok (optD (fw w k)) st) := by
  refine scp_same (by simp [b_weak, check_asked_ok w k h (by omega) st g, first_weak_ok w h k hk st g]) ?_ ?_ g
  · cases fw w k <;> rfl
  · cases fw w k with
    | none => rfl
    | some l => exact below_nums _ _
def gfD (w : List (List Nat)) : Option (List Nat) → D
  | none => dN w.length
  | some l => .int ((l.length : Int) - 1)
theorem greatest_ok (w : List (List Nat)) (h : Web w) (st : Store) (g : Good st) : f_greatest_firm [wD w] st = some (.ok (gfD w (fw w w.length)) st) := by
  have hf := first_weak_ok w h w.length (by have := h.hi; omega) st g
  refine scp_same ?_ ?_ ?_ g
  · cases hx : fw w w.length with
    | none => rw [hx] at hf; simp [b_greatest_firm, check_web_ok w h st g, hf, isNon, optD, gfD]
    | some l => rw [hx] at hf; simp [b_greatest_firm, check_web_ok w h st g, hf, isNon, optD, gfD]
  · cases fw w w.length <;> rfl
  · cases fw w w.length <;> rfl
end K45

set_option Elab.async false
set_option linter.all false
set_option autoImplicit false
set_option maxRecDepth 100000
namespace K45
open PySem Mi
theorem gTup_loc {st : Store} {l : Nat} {ds : List D} (h : st[l]? = some (.lst ds)) : Mi.gTup st (.loc l) = some (.tup ds) := by
  show (match (match st[l]? with | some (.lst ds) => some ds | _ => none) with | some ds => some (D.tup ds) | none => none) = _
  rw [h]
theorem bin_ok {a b : E} {f : Op} {σ : Mi.Env} {st : Store} {x y z : D} (ha : a σ st = some (.ok x st)) (hb : b σ st = some (.ok y st)) (h : f x y = some z) : eBin f a b σ st = some (.ok z st) := by simp [ha, hb, h]
theorem cmp_ok {a b : E} {f : Cmp} {σ : Mi.Env} {st : Store} {x y : D} {c : Bool} (ha : a σ st = some (.ok x st)) (hb : b σ st = some (.ok y st)) (h : f st x y = some c) : tCmp f a b σ st = some (.ok c st) := by simp [ha, hb, h]
theorem tup_tup {xs ys : List Nat} (h : xs.length + ys.length ≤ 1000) : oAdd (nums xs) (nums ys) = some (nums (xs ++ ys)) := by
  rw [show oAdd (nums xs) (nums ys) = if okLen ((nsD xs).length + (nsD ys).length) then some (.tup (nsD xs ++ nsD ys)) else none from (rfl), if_pos (okLen_le (by rw [nsD_len, nsD_len]; exact h))]
  simp [nsD]
theorem bin_call {f : Op} {b : E} {σ : Mi.Env} {st : Store} : True := trivial
/-- the pockets without the lot -/
def nbl (w : List (List Nat)) (gone : List Nat) (i : Nat) : List Nat := (nbr w i).filter (out gone)
theorem filter_app (gone fd xs : List Nat) : (xs.filter fun x => decide (x ∉ gone ++ fd)) = (xs.filter (out gone)).filter fun x => decide (x ∉ fd) := by
  rw [List.filter_filter]
  congr 1
  funext x
  unfold out
  by_cases h1 : x ∈ gone <;> by_cases h2 : x ∈ fd <;> simp [h1, h2]
theorem reached_loop (w : List (List Nat)) (hm : w.length ≤ 9) (gone : List Nat) (hgl : gone.length ≤ 9) (S : Nat → Prop) (hn0 : Nb w.length (fun x => x < w.length) (nbr w)) (hn : Nb w.length S (nbl w gone)) (p : D) (base : Store) : ∀ (n a : Nat) (fd r : List Nat) (x : Option D), Fd w.length S fd → grow (nbl w gone) n a fd = some r →
    ∃ x' a', whN (tCmp dLt (eVar 4) (eU' gLen (eVar 3))) (sSeq (sExt (eVar 3) (eL (lComp (iOf (eIx (eVar 0) (eIx (eVar 3) (eVar 4)))) (gVar 5) (tCmp dNotIn (eVar 5) (eBin oAdd (eVar 1) (eU' Mi.gTup (eVar 3)))) (eVar 5) [5]))) (sSet 4 (eBin oAdd (eVar 4) (eC (.int 1))))) n
      [some (wD w), some (nums gone), some p, some (.loc base.length), some (dN a), x] (base ++ [.lst (nsD fd)]) = some (.nx [some (wD w), some (nums gone), some p, some (.loc base.length), a', x'] (base ++ [.lst (nsD r)]))
  | 0, a, fd, r, x, _, h => by cases h
  | n + 1, a, fd, r, x, hf, h => by
    unfold grow at h
    have hg : (base ++ [O.lst (nsD fd)])[base.length]? = some (.lst (nsD fd)) := getX _ _ _
    have hlen : gLen (base ++ [O.lst (nsD fd)]) (.loc base.length) = some (.int fd.length) := by
      unfold gLen dLen
      simp [hg]
    by_cases ha : a < fd.length
    · rw [if_pos ha] at h
      have hi := hf.lt _ (getD_mem ha)
      have hfl := hf.len
      have hmore := hf.more hn ha
      have e1 := itemAt_nsD fd a ha
      have e2 := itemAt_wD w _ hi.1
      generalize fd.getD a 0 = q at *
      have hc : lComp (iOf (eIx (eVar 0) (eIx (eVar 3) (eVar 4)))) (gVar 5) (tCmp dNotIn (eVar 5) (eBin oAdd (eVar 1) (eU' Mi.gTup (eVar 3)))) (eVar 5) [5] [some (wD w), some (nums gone), some p, some (.loc base.length), some (dN a), x] (base ++ [O.lst (nsD fd)]) = some (.ok (((nbl w gone q).filter fun x => decide (x ∉ fd)).map dN) (base ++ [O.lst (nsD fd)])) := by
        have hnl : (nbr w q).length ≤ w.length := by
          have := List.Nodup.length_le_of_subset (hn0.nd _) (l₂ := List.range w.length) fun x hx => List.mem_range.mpr (hn0.lt _ hi.1 x hx).1
          rwa [List.length_range] at this
        unfold nbl
        rw [← filter_app]
        refine lComp_pure dN (fun y => [some (wD w), some (nums gone), some p, some (.loc base.length), some (dN a), some (dN y)]) _ dN (nbr w q) ?_ ?_ ?_ ?_ ?_
        · simp [hg, e1, e2]; rfl
        · intro y _; simp
        · intro y _
          have := dNotIn_nsD (base ++ [O.lst (nsD fd)]) y (nums (gone ++ fd)) (gone ++ fd) rfl
          exact cmp_ok (by simp) (bin_ok (x := nums gone) (y := nums fd) (by simp) (U_ok (x := .loc base.length) (by simp) (gTup_loc hg)) (tup_tup (by omega))) this
        · intro y _ _; simp
        · exact okLen_of (by omega)
      generalize (nbl w gone q).filter (fun x => decide (x ∉ fd)) = L at *
      have hml := hmore.len
      obtain ⟨x', a', ih⟩ := reached_loop w hm gone hgl S hn0 hn p base n (a + 1) _ r x hmore h
      refine ⟨x', a', ?_⟩
      refine (wh_yes (σ1 := [some (wD w), some (nums gone), some p, some (.loc base.length), some (dN (a + 1)), x]) (st2 := base ++ [O.lst (nsD (fd ++ L))]) (st1 := base ++ [O.lst (nsD fd)]) ?_ ?_).trans ih
      · simp [hlen, ha]
      · rw [List.length_append] at hml
        have hok : okLen (fd.length + L.length) = true := okLen_le (by omega)
        have hs := setX base (.lst (nsD fd)) (.lst (nsD (fd ++ L))) []
        have hm : nsD (fd ++ L) = nsD fd ++ L.map dN := by unfold nsD; rw [List.map_append]
        refine (seq_nx (ext_ok (l := base.length) (ds0 := nsD fd) (ds := nsD fd) (xs := L.map dN) (d := .lst (L.map dN)) (st1 := base ++ [.lst (nsD fd)]) (by simp) hg (L_ok hc) rfl hg (by rw [nsD_len, List.length_map]; exact hok))).trans ?_
        rw [hm] at hs ⊢
        rw [hs]
        simp
    · rw [if_neg ha] at h
      cases h
      refine ⟨x, some (dN a), wh_no (st1 := base ++ [O.lst (nsD fd)]) ?_⟩
      simp [hlen]
      omega
theorem nbl_nb {w : List (List Nat)} (h : Web w) (gone : List Nat) : Nb w.length (fun x => x < w.length ∧ x ∉ gone) (nbl w gone) := by
  have hn := h.nb
  refine ⟨fun i => (hn.nd i).sublist List.filter_sublist, fun i hi x hx => ?_⟩
  have hx := List.mem_filter.mp hx
  have h1 := hn.lt i hi.1 x hx.1
  exact ⟨h1.1, h1.1, of_decide_eq_true hx.2⟩
theorem reached_ok (w : List (List Nat)) (h : Web w) (gone : List Nat) (hgl : gone.length ≤ 9) (p : Nat) (hp : p < w.length) (hs : p ∉ gone) (st : Store) (g : Good st) : f__law_reached [wD w, nums gone, dN p] st = some (.ok (.lst (nsD (bfs (nbl w gone) p))) st) := by
  have hm : w.length ≤ 9 := by have := h.hi; omega
  obtain ⟨e, hf⟩ := bfs_ok (nbl_nb h gone) hp ⟨hp, hs⟩ hm
  obtain ⟨x', a', hw⟩ := reached_loop w hm gone hgl _ h.nb (nbl_nb h gone) (dN p) st fuel 0 [p] _ none (Fd.one hp ⟨hp, hs⟩) e
  refine scp_new (k := 0) (ext := [O.lst (nsD (bfs (nbl w gone) p))]) ?_ rfl (belows_nsD _ _) g
  refine runB_rt ?_
  unfold b__law_reached
  rw [seq_nx (σ1 := [some (wD w), some (nums gone), some (dN p), some (.loc st.length), none, none]) (st1 := st ++ [.lst (nsD [p])])]
  · rw [seq_nx (σ1 := [some (wD w), some (nums gone), some (dN p), some (.loc st.length), some (dN 0), none]) (st1 := st ++ [.lst (nsD [p])])]
    · rw [seq_nx ((x_while ..).trans hw)]
      simp
    · simp
  · simp [nsD]
theorem left_pw (w : List (List Nat)) (lot : List Nat) : (leftOf w lot).Pairwise (· < ·) := (List.pairwise_lt_range).sublist List.filter_sublist
theorem holds_eq (w : List (List Nat)) (h : Web w) (gone : List Nat) : ((leftOf w gone).all fun p => decide ((bfs (nbl w gone) p).length = (leftOf w gone).length)) = hang w gone := by
  unfold hang
  rw [Bool.eq_iff_iff, List.all_eq_true, List.all_eq_true]
  have key : ∀ p ∈ leftOf w gone, decide (sortN (bfs (nbr (wo w gone)) p) = leftOf w gone) = decide ((bfs (nbl w gone) p).length = (leftOf w gone).length) := fun p hp => by
    have hp := List.mem_filter.mp hp
    have h1 := List.mem_range.mp hp.1
    have h2 : p ∉ gone := of_decide_eq_true hp.2
    have hN := nbl_nb h gone
    rw [bfs_congr (nb' := nbr (wo w gone)) hN (fun i hi => by rw [nbr_wo, if_neg hi.2]; rfl) h1 ⟨h1, h2⟩]
    obtain ⟨_, hf⟩ := bfs_ok hN h1 ⟨h1, h2⟩ (by have := h.hi; omega)
    exact sortN_eq hf.nd (fun x hx => List.mem_filter.mpr ⟨List.mem_range.mpr (hf.lt x hx).1, decide_eq_true (hf.lt x hx).2.2⟩) (left_pw w gone)
  exact ⟨fun q p hp => (key p hp).trans (q p hp), fun q p hp => (key p hp).symm.trans (q p hp)⟩
theorem holds_ok (w : List (List Nat)) (h : Web w) (gone : List Nat) (hgl : gone.length ≤ 9) (st : Store) (g : Good st) : f__law_holds [wD w, nums gone] st = some (.ok (.bl (hang w gone)) st) := by
  rw [← holds_eq w h gone]
  have hm : w.length ≤ 9 := by have := h.hi; omega
  refine scp_same (runB_rt ?_) rfl rfl g
  unfold b__law_holds
  have h1 : lComp (iRange (eU' gLen (eVar 0))) (gVar 3) (tCmp dNotIn (eVar 3) (eVar 1)) (eVar 3) [3] [some (wD w), some (nums gone), none, none] st = some (.ok (nsD (leftOf w gone)) st) := by
    refine lComp_pure dN (fun p => [some (wD w), some (nums gone), none, some (dN p)]) _ dN (List.range w.length) ?_ ?_ ?_ ?_ (okLen_of (by simp; omega))
    · have hs : small62 (w.length : Int) = true := small_nat _ (by omega)
      simp [hs, rangeD_0, nsD]
    · intro p _; simp
    · intro p _
      have := dNotIn_nsD st p (nums gone) gone rfl
      simp [this, out]
    · intro p _ _; simp
  refine (seq_nx (set_ok (L_ok h1) (by simp))).trans ?_
  refine ret_ok (U_ok (L_ok (lComp_all dN (fun p => [some (wD w), some (nums gone), some (.lst (nsD (leftOf w gone))), some (dN p)]) _ (leftOf w gone) ?_ ?_ ?_ ?_)) (gAll_map st _ _))
  · simp; rfl
  · intro p _; simp
  · intro p hp
    have hp := List.mem_filter.mp hp
    have hr := reached_ok w h gone hgl p (List.mem_range.mp hp.1) (of_decide_eq_true hp.2) st g
    have e : tCmp dEq (eU' gLen (eCall f__law_reached (eCons (eVar 0) (eCons (eVar 1) (eCons (eVar 3) eNil))))) (eU' gLen (eVar 2)) [some (wD w), some (nums gone), some (.lst (nsD (leftOf w gone))), some (dN p)] st = some (.ok (decide ((bfs (nbl w gone) p).length = (leftOf w gone).length)) st) := by
      refine cmp_ok (x := .int (bfs (nbl w gone) p).length) (y := .int (leftOf w gone).length) (U_ok (x := .lst (nsD (bfs (nbl w gone) p))) (call_to (ds := [wD w, nums gone, dN p]) (by simp) hr) (by rw [w_len_l, nsD_len])) (by simp) ?_
      rw [w_eqi]
      exact congrArg some (decide_eq_decide.mpr (by omega))
    simp only [x_B, x_bnd, e, x_ret]
  · refine okLen_of ?_
    have := List.length_filter_le (out gone) (List.range w.length)
    rw [List.length_range] at this
    unfold leftOf; omega
theorem step_bad2 (F : Fn) (X Y : D) (c : Bool) (st : Store) (hh : F [Y, X] st = some (.ok (.bl c) st)) : sIf (tNot (tE (eCall F (eCons (eVar 0) (eCons (eVar 1) eNil))))) (sRet (eVar 1)) sSkip [some Y, some X] st = if (!c) = true then some (.rt X st) else some (.nx [some Y, some X] st) := by
  cases c <;> simp [hh]
end K45

set_option Elab.async false
set_option linter.all false
set_option autoImplicit false
set_option maxRecDepth 100000
namespace K45
open PySem Mi
theorem lots_len : ∀ j < 9, (lotsOf j).length ≤ 300 ∧ ((lotsOf j).all fun l => decide (l.length ≤ 9)) = true := by decide +kernel
theorem toPys_map {α : Type} (st : Store) (f : α → D) (k : α → PyData) (h : ∀ a, toPy st (f a) = some (k a)) : ∀ xs : List α, toPys st (xs.map f) = some (xs.map k)
  | [] => rfl
  | x :: xs => by
    have ih := toPys_map st f k h xs
    show (match toPy st (f x) with | some y => (match toPys st (xs.map f) with | some ys => some (y :: ys) | none => none) | none => none) = _
    rw [h, ih]; rfl
abbrev fL (lot : List Nat) : D := .tup [.int (lot.length : Int), nums lot]
theorem toPy_fL (st : Store) (lot : List Nat) : toPy st (fL lot) = some (kL lot) := by
  have e : toPys st [.int (lot.length : Int), nums lot] = some [.int (lot.length : Int), .tuple (lot.map pN)] := by
    show (match toPy st (.int (lot.length : Int)) with | some y => (match (match toPy st (nums lot) with | some y => (match toPys st [] with | some ys => some (y :: ys) | none => none) | none => none) with | some ys => some (y :: ys) | none => none) | none => none) = _
    rw [toPy_int, toPy_nums]; rfl
  show (match toPys st [.int (lot.length : Int), nums lot] with | some xs => some (PyData.tuple xs) | none => none) = _
  rw [e]; rfl
theorem alikeAll_nat : ∀ xs ys : List Nat, W.alikeAll (xs.map pN) (ys.map pN) = true
  | [], _ => by rw [List.map_nil, W.alikeAll]
  | x :: xs, [] => by rw [List.map_cons, List.map_nil]; rfl
  | x :: xs, y :: ys => by
    show (W.alike (pN x) (pN y) && W.alikeAll (xs.map pN) (ys.map pN)) = true
    rw [alikeAll_nat xs ys]; rfl
theorem alike_kL (a b : List Nat) : W.alike (kL a) (kL b) = true := by
  show (true && (W.alikeAll (a.map pN) (b.map pN) && W.alikeAll [] [])) = true
  rw [alikeAll_nat]
  rfl
theorem depth_kL (a : List Nat) : (kL a).depth ≤ 64 := by
  show max 0 (max (PyData.depthAll (a.map pN) + 1) 0) + 1 ≤ 64
  rw [depthAll_pN]; decide
theorem lt_trans' (a b c : List Nat) (h1 : W.dataLt (kL a) (kL b) = true) (h2 : W.dataLt (kL b) (kL c) = true) : W.dataLt (kL a) (kL c) = true :=
  (PyProof.Rows.listOrd PyProof.Rows.itemOrd).trans (W.keyToks (kL a)) (W.keyToks (kL b)) (W.keyToks (kL c)) h1 h2
theorem lt_irrefl' (a : List Nat) : W.dataLt (kL a) (kL a) = false := (PyProof.Rows.listOrd PyProof.Rows.itemOrd).irrefl (W.keyToks (kL a))
theorem chain_pw : ∀ xs : List (List Nat), chainB xs = true → xs.Pairwise fun a b => W.dataLt (kL a) (kL b) = true
  | [], _ => .nil
  | [a], _ => List.pairwise_singleton ..
  | a :: b :: r, h => by
    have h : (W.dataLt (kL a) (kL b) && chainB (b :: r)) = true := h
    rw [Bool.and_eq_true] at h
    have ih := chain_pw (b :: r) h.2
    refine List.pairwise_cons.mpr ⟨fun c hc => ?_, ih⟩
    rcases List.mem_cons.mp hc with rfl | hc
    · exact h.1
    · exact lt_trans' _ _ _ h.1 ((List.pairwise_cons.mp ih).1 c hc)
theorem pw_cmp {xs : List (List Nat)} (h : xs.Pairwise fun a b => W.dataLt (kL a) (kL b) = true) {a b : List Nat} (ha : a ∈ xs) (hb : b ∈ xs) : a = b ∨ W.dataLt (kL a) (kL b) = true ∨ W.dataLt (kL b) (kL a) = true := by
  induction xs with
  | nil => cases ha
  | cons x xs ih =>
    have h := List.pairwise_cons.mp h
    rcases List.mem_cons.mp ha with e1 | ha' <;> rcases List.mem_cons.mp hb with e2 | hb'
    · exact .inl (e1.trans e2.symm)
    · rw [e1]; exact .inr (.inl (h.1 b hb'))
    · rw [e2]; exact .inr (.inr (h.1 a ha'))
    · exact ih h.2 ha' hb'
theorem sort_lots (n : Nat) (hn : n < 9) (st : Store) : sortD st ((lotsOf n).map fL) = some ((lots n).map fL) := by
  obtain ⟨f1, f2, f3, _⟩ := lots_facts n hn
  have hp : (lots n).Perm (lotsOf n) := List.isPerm_iff.mp f1
  have hw := chain_pw _ f2
  have le_of : ∀ a b, W.dataLe false kL a b = !W.dataLt (kL b) (kL a) := fun a b => rfl
  refine sortD_map fL kL (lotsOf n) (lots n) (toPys_map st _ _ (toPy_fL st) _) hp (hw.imp fun {a b} h => ?_) (fun a b ha hb h1 h2 => ?_) ?_ ?_ (okLen_of (by have := (lots_len n hn).1; omega)) ?_
  · rw [le_of]
    cases e : W.dataLt (kL b) (kL a) with
    | false => rfl
    | true => have := lt_trans' _ _ _ h e; rw [lt_irrefl'] at this; cases this
  · rw [le_of] at h1 h2
    rcases pw_cmp hw (hp.mem_iff.mpr ha) (hp.mem_iff.mpr hb) with z | z | z
    · exact z
    · rw [z] at h2; cases h2
    · rw [z] at h1; cases h1
  · unfold alikeB
    rw [List.all_map]
    refine List.all_eq_true.mpr fun x _ => ?_
    show (((lotsOf n).map kL).all fun b => W.alike (kL x) b) = true
    rw [List.all_map]
    exact List.all_eq_true.mpr fun y _ => alike_kL x y
  · rw [Bool.or_eq_true]
    refine .inl ?_
    rw [List.all_map]
    exact List.all_eq_true.mpr fun _ _ => rfl
  · rw [List.all_map]
    exact List.all_eq_true.mpr fun x _ => decide_eq_true (depth_kL x)
def upL (n : Nat) (s0 : Store) (p : List Nat) (σ : Mi.Env) (s : Store) : Prop := s = s0 ∧ ∃ a b c, σ = [some (dN n), some (.lst ((lotsOf p.length).map nums)), a, b, c]
theorem add_ok {a b : E} {σ : Mi.Env} {st : Store} {xs ys : List D} (ha : a σ st = some (.ok (.lst xs) st)) (hb : b σ st = some (.ok (.lst ys) st)) (hl : xs.length + ys.length ≤ 1000) : lAdd a b σ st = some (.ok (xs ++ ys) st) := by
  simp [ha, hb, okLen_le hl]
theorem lots_step (n : Nat) (hn : n < 9) (s0 : Store) (p : List Nat) (x : Nat) (q : List Nat) (σ : Mi.Env) (s : Store) (e : p ++ x :: q = [] ++ List.range n) (i0 : upL n s0 p σ s) :
    ∃ σ1 σ2 st2, gVar 2 (dN x) σ = some σ1 ∧ sSet 1 (eL (lAdd (eVar 1) (eL (lComp (iOf (eVar 1)) (gVar 3) tYes (eBin oAdd (eVar 3) (eTup (eCons (eVar 2) eNil))) [3])))) σ1 s = some (.nx σ2 st2) ∧ upL n s0 (p ++ [x]) σ2 st2 := by
  obtain ⟨rfl, a, b, c, rfl⟩ := i0
  have hlen := congrArg List.length e
  simp at hlen
  have hx : x = p.length := by
    have h1 : (p ++ x :: q)[p.length]? = some x := by rw [List.getElem?_append_right (Nat.le_refl _), Nat.sub_self]; rfl
    rw [e, List.nil_append, List.getElem?_range (by omega)] at h1
    exact (Option.some.inj h1).symm
  have hb := lots_len p.length (by omega)
  have hb2 := lots_len (p.length + 1) (by omega)
  have hc : lComp (iOf (eVar 1)) (gVar 3) tYes (eBin oAdd (eVar 3) (eTup (eCons (eVar 2) eNil))) [3] [some (dN n), some (.lst ((lotsOf p.length).map nums)), some (dN x), b, c] s = some (.ok ((lotsOf p.length).map fun l => nums (l ++ [x])) s) := by
    refine lComp_all nums (fun l => [some (dN n), some (.lst ((lotsOf p.length).map nums)), some (dN x), some (nums l), c]) _ _ ?_ ?_ ?_ (okLen_of (by omega))
    · simp
    · intro l _; simp
    · intro l hl
      have h9 : l.length ≤ 9 := of_decide_eq_true (List.all_eq_true.mp hb.2 l hl)
      exact bin_ok (x := nums l) (y := nums [x]) (by simp) (by simp [nsD]) (tup_tup (by simp; omega))
  refine ⟨_, _, _, by simp, set_ok (L_ok (add_ok (xs := (lotsOf p.length).map nums) (ys := (lotsOf p.length).map fun l => nums (l ++ [x])) (by simp) (L_ok hc) (by rw [List.length_map, List.length_map]; omega))) (by simp), rfl, some (dN x), b, c, ?_⟩
  have : (lotsOf p.length).map nums ++ (lotsOf p.length).map (fun l => nums (l ++ [x])) = (lotsOf (p ++ [x]).length).map nums := by
    rw [show (p ++ [x]).length = p.length + 1 by simp]
    show _ = (lotsOf p.length ++ (lotsOf p.length).map fun lot => lot ++ [p.length]).map nums
    rw [List.map_append, List.map_map, hx]; rfl
  rw [this]
  rfl
theorem lots_ok (n : Nat) (hn : n < 9) (st : Store) (g : Good st) : f__law_lots [dN n] st = some (.ok (.lst ((lots n).map nums)) st) := by
  refine scp_same (runB_rt ?_) rfl (belows_map _ _ (below_nums _) _) g
  unfold b__law_lots
  obtain ⟨σ', st', e, rfl, a, b, c, rfl⟩ := forFix_ind (g := gVar 2) (b := sSet 1 (eL (lAdd (eVar 1) (eL (lComp (iOf (eVar 1)) (gVar 3) tYes (eBin oAdd (eVar 3) (eTup (eCons (eVar 2) eNil))) [3]))))) dN (upL n st) (List.range n) [] [some (dN n), some (.lst [nums []]), none, none, none] st (lots_step n hn st) ⟨rfl, _, _, _, rfl⟩
  rw [List.nil_append, List.length_range] at e
  refine (seq_nx (σ1 := [some (dN n), some (.lst [nums []]), none, none, none]) (st1 := st') (by simp [nsD])).trans ?_
  have e0 : iRange (eVar 0) [some (dN n), some (.lst [nums []]), none, none, none] st' = some (.ok (.fix ((List.range n).map dN)) st') := by
    have hs : small62 (n : Int) = true := small_nat _ (by omega)
    simp [hs, rangeD_0, nsD]
  refine (seq_nx ((for_fix e0).trans e)).trans ?_
  obtain ⟨_, _, f3, _⟩ := lots_facts n hn
  have hb := lots_len n hn
  have h1 : lComp (iOf (eVar 1)) (gVar 3) tYes (eTup (eCons (eU' gLen (eVar 3)) (eCons (eVar 3) eNil))) [3] [some (dN n), some (.lst ((lotsOf n).map nums)), a, b, c] st' = some (.ok ((lotsOf n).map fL) st') := by
    refine lComp_all nums (fun l => [some (dN n), some (.lst ((lotsOf n).map nums)), a, some (nums l), c]) _ _ ?_ ?_ ?_ (okLen_of (by omega))
    · simp
    · intro l _; simp
    · intro l _; simp
  have h2 : lComp (iOf (eL (lSorted (eL (lComp (iOf (eVar 1)) (gVar 3) tYes (eTup (eCons (eU' gLen (eVar 3)) (eCons (eVar 3) eNil))) [3]))))) (gVar 4) tYes (eIx (eVar 4) (eC (.int 1))) [4] [some (dN n), some (.lst ((lotsOf n).map nums)), a, b, c] st' = some (.ok ((lots n).map nums) st') := by
    refine lComp_all fL (fun l => [some (dN n), some (.lst ((lotsOf n).map nums)), a, b, some (fL l)]) _ _ (iOf_lst (L_ok (sorted_ok (L_ok h1) rfl (sort_lots n hn st')))) ?_ ?_ (okLen_of (by show (upTo n n).length ≤ _; omega))
    · intro l _; simp
    · intro l _
      have : itemAt [D.int (l.length : Int), nums l] 1 = some (nums l) := rfl
      simp [this]
  exact ret_ok (L_ok h2)
def weakest (w : List (List Nat)) : Option (List Nat) := (lots w.length).find? fun l => !hang w l
theorem weakest_ok (w : List (List Nat)) (h : Web w) (st : Store) (g : Good st) : f__law_weakest [wD w] st = some (.ok (optD (weakest w)) st) := by
  have hn : w.length < 9 := by have := h.hi; omega
  have hu := lots_ok w.length hn st g
  obtain ⟨f1, _, f3, _⟩ := lots_facts w.length hn
  have hall : ∀ l ∈ lots w.length, l.length ≤ 9 := fun l hl => of_decide_eq_true (List.all_eq_true.mp (lots_len w.length hn).2 l ((List.isPerm_iff.mp f1).mem_iff.mp hl))
  have key : ∀ (xs : List (List Nat)) (c : Option D), (∀ l ∈ xs, l.length ≤ 9) → (match xs.find? (fun l => !hang w l) with | some x => forFix (gVar 1) (sIf (tNot (tE (eCall f__law_holds (eCons (eVar 0) (eCons (eVar 1) eNil))))) (sRet (eVar 1)) sSkip) (xs.map nums) [some (wD w), c] st = some (.rt (nums x) st) | none => ∃ c', forFix (gVar 1) (sIf (tNot (tE (eCall f__law_holds (eCons (eVar 0) (eCons (eVar 1) eNil))))) (sRet (eVar 1)) sSkip) (xs.map nums) [some (wD w), c] st = some (.nx [some (wD w), c'] st)) := by
    intro xs
    induction xs with
    | nil => intro c _; exact ⟨c, rfl⟩
    | cons x xs ih =>
      intro c hx9
      have hh := holds_ok w h x (hx9 x List.mem_cons_self) st g
      have hb := step_bad2 f__law_holds (nums x) (wD w) (hang w x) st hh
      cases hx : hang w x with
      | false =>
        rw [List.find?_cons_of_pos (by simp [hx]), List.map_cons]
        rw [hx] at hb
        exact forFix_rt (σ2 := []) (by simp) hb
      | true =>
        rw [List.find?_cons_of_neg (by simp [hx]), List.map_cons]
        rw [hx] at hb
        rw [forFix_nx (σ1 := [some (wD w), some (nums x)]) (by simp) hb]
        exact ih (some (nums x)) fun l hl => hx9 l (List.mem_cons_of_mem _ hl)
  have hb : below st.length (optD (weakest w)) = true := by
    cases weakest w with
    | none => rfl
    | some l => exact below_nums _ _
  have hl : isLoc (optD (weakest w)) = false := by cases weakest w <;> rfl
  refine scp_same (runB_rt ?_) hl hb g
  unfold b__law_weakest
  have e1 : iOf (eCall f__law_lots (eCons (eU' gLen (eVar 0)) eNil)) [some (wD w), none] st = some (.ok (.fix ((lots w.length).map nums)) st) :=
    iOf_lst (call_to (ds := [dN w.length]) (by simp) hu)
  have K := key (lots w.length) none hall
  unfold weakest
  cases hx : (lots w.length).find? (fun l => !hang w l) with
  | some x =>
    rw [hx] at K
    exact seq_rt ((for_fix e1).trans K)
  | none =>
    rw [hx] at K
    obtain ⟨c', K⟩ := K
    refine (seq_nx ((for_fix e1).trans K)).trans ?_
    simp [optD]
/-! the two find the same -/
theorem find_cut (q : List Nat → Bool) (k : Nat) : ∀ xs : List (List Nat), (xs.Pairwise fun a b => a.length ≤ b.length) → (xs.filter fun l => decide (l.length ≤ k)).find? q = (match xs.find? q with | some l => if l.length ≤ k then some l else none | none => none)
  | [], _ => rfl
  | x :: xs, h => by
    have h := List.pairwise_cons.mp h
    have ih := find_cut q k xs h.2
    by_cases hx : x.length ≤ k
    · rw [List.filter_cons_of_pos (by simpa using hx)]
      cases hq : q x with
      | true => rw [List.find?_cons_of_pos hq, List.find?_cons_of_pos hq]; simp [hx]
      | false => rw [List.find?_cons_of_neg (by simp [hq]), List.find?_cons_of_neg (by simp [hq])]; exact ih
    · rw [List.filter_cons_of_neg (by simpa using hx)]
      have hnil : xs.filter (fun l => decide (l.length ≤ k)) = [] := List.filter_eq_nil_iff.mpr fun l hl => by
        have := h.1 l hl
        simp; omega
      rw [hnil]
      rw [hnil] at ih
      cases hq : q x with
      | true => rw [List.find?_cons_of_pos hq]; simp [hx]
      | false => rw [List.find?_cons_of_neg (by simp [hq])]; exact ih
theorem lots_sorted : ∀ n < 9, (upTo n n).Pairwise fun a b => a.length ≤ b.length := by decide +kernel
theorem fw_eq (w : List (List Nat)) (h : Web w) (k : Nat) (hk : k < 10) : fw w k = (match weakest w with | some l => if l.length ≤ k then some l else none | none => none) := by
  have hn : w.length < 9 := by have := h.hi; omega
  obtain ⟨_, _, _, F⟩ := lots_facts w.length hn
  unfold fw weakest
  rw [(F k hk).1]
  exact find_cut _ k _ (lots_sorted _ hn)
theorem lots_le : ∀ n < 9, ((upTo n n).all fun l => decide (l.length ≤ n)) = true := by decide +kernel
theorem weakest_le {w : List (List Nat)} (h : Web w) {l : List Nat} (e : weakest w = some l) : l.length ≤ w.length := by
  have hn : w.length < 9 := by have := h.hi; omega
  exact of_decide_eq_true (List.all_eq_true.mp (lots_le _ hn) l (List.mem_of_find?_eq_some e))
end K45

set_option Elab.async false
set_option linter.all false
set_option autoImplicit false
set_option maxRecDepth 100000
namespace K45
open PySem Mi
/-! _law_is of equals -/
theorem is_int (n : Nat) (i : Int) (st : Store) (g : Good st) : f__law_is (n + 1) [.int i, .int i] st = some (.ok (.bl true) st) :=
  scp_same (m := runB 4 (b__law_is (f__law_is n)) [.int i, .int i]) (by generalize f__law_is n = F; simp [b__law_is]) rfl rfl g
theorem is_non (n : Nat) (st : Store) (g : Good st) : f__law_is (n + 1) [.non, .non] st = some (.ok (.bl true) st) := by
  have h : dEq st .non .non = some true := rfl
  exact scp_same (m := runB 4 (b__law_is (f__law_is n)) [.non, .non]) (by generalize f__law_is n = F; simp [b__law_is, h]) rfl rfl g
theorem lookLen (st : Store) (xs : List D) : gLen st (.tup xs) = some (.int xs.length) := rfl
theorem is_shape (C : EL) (R : S) (X : D) (L : Int) (st : Store) (ds : List D) (ht : tyOf st X = some "tuple" ∨ tyOf st X = some "list") (hl : gLen st X = some (.int L)) (hc : C [some X, some X, none, none] st = some (.ok ds st)) (ha : gAll st (.lst ds) = some (.bl true)) : sSeq (sIf (tE (eIsi2 "tuple" "list" (eVar 1))) (sSeq (sIf (tOr (tCmp dNe (eIsi "tuple" (eVar 0)) (eIsi "tuple" (eVar 1))) (tCmp dNe (eIsi "list" (eVar 0)) (eIsi "list" (eVar 1)))) (sRet (eC (.bl false))) sSkip) (sRet (eAnd (eB (tCmp dEq (eU' gLen (eVar 0)) (eU' gLen (eVar 1)))) (eU' gAll (eL C))))) sSkip) R [some X, some X, none, none] st = some (.rt (.bl true) st) := by
  rcases ht with ht | ht <;> simp [ht, hl, hc, ha]
theorem is_nums (n : Nat) (xs : List Nat) (hx : xs.length ≤ 9) (st : Store) (g : Good st) : f__law_is (n + 2) [nums xs, nums xs] st = some (.ok (.bl true) st) := by
  have hI : ∀ i, f__law_is (n + 1) [.int i, .int i] st = some (.ok (.bl true) st) := fun i => is_int n i st g
  refine scp_same (m := runB 4 (b__law_is (f__law_is (n + 1))) [nums xs, nums xs]) ?_ rfl rfl g
  generalize f__law_is (n + 1) = F at hI ⊢
  have hc : lComp (iRange (eU' gLen (eVar 1))) (gVar 2) tYes (eCall F (eCons (eIx (eVar 0) (eVar 2)) (eCons (eIx (eVar 1) (eVar 2)) eNil))) [2] [some (nums xs), some (nums xs), none, none] st = some (.ok ((List.range xs.length).map fun x => D.bl ((fun _ => true) x)) st) := by
    refine lComp_all dN (fun k => [some (nums xs), some (nums xs), some (dN k), none]) _ (List.range xs.length) ?_ ?_ ?_ (okLen_of (by simp; omega))
    · have hs : small62 (xs.length : Int) = true := small_nat _ (by omega)
      simp [hs, rangeD_0, nsD]
    · intro k _; simp
    · intro k hk
      have e := itemAt_nsD xs k (List.mem_range.mp hk)
      exact call_to (ds := [dN (xs.getD k 0), dN (xs.getD k 0)]) (by generalize xs.getD k 0 = q at e ⊢; simp [e]) (hI _)
  have ha := gAll_map st (fun _ : Nat => true) (List.range xs.length)
  have hall : (List.range xs.length).all (fun _ => true) = true := List.all_eq_true.mpr fun _ _ => rfl
  rw [hall] at ha
  exact runB_rt (is_shape _ _ (nums xs) xs.length st _ (.inl rfl) (by rw [w_len_t, nsD_len]) hc ha)
theorem is_opt (n : Nat) (o : Option (List Nat)) (ho : ∀ l, o = some l → l.length ≤ 9) (st : Store) (g : Good st) : f__law_is (n + 2) [optD o, optD o] st = some (.ok (.bl true) st) := by
  cases o with
  | none => exact is_non (n + 1) st g
  | some l => exact is_nums n l (ho l rfl) st g
theorem is_succ (n : Nat) (ds : List D) : f__law_is (n + 1) ds = scp (runB 4 (b__law_is (f__law_is n)) ds) := rfl
theorem is_one (n : Nat) (d : D) (st : Store) (h : f__law_is n [d, d] st = some (.ok (.bl true) st)) (g : Good st) : f__law_is (n + 1) [.lst [d], .lst [d]] st = some (.ok (.bl true) st) := by
  rw [is_succ]
  refine scp_same ?_ rfl rfl g
  generalize f__law_is n = F at h ⊢
  have hc : lComp (iRange (eU' gLen (eVar 1))) (gVar 2) tYes (eCall F (eCons (eIx (eVar 0) (eVar 2)) (eCons (eIx (eVar 1) (eVar 2)) eNil))) [2] [some (.lst [d]), some (.lst [d]), none, none] st = some (.ok [D.bl true] st) := by
    refine lComp_all (α := Nat) dN (fun k => [some (.lst [d]), some (.lst [d]), some (dN k), none]) (fun _ => D.bl true) [0] ?_ ?_ ?_ (okLen_le (by decide))
    · have hs : small62 1 = true := by decide +kernel
      have hr : rangeD 0 1 = [dN 0] := rfl
      simp [hs, hr]
    · intro k _; simp
    · intro k hk
      have e : k = 0 := List.mem_singleton.mp hk
      subst e
      have e : itemAt [d] 0 = some d := rfl
      exact call_to (ds := [d, d]) (by simp [e]) h
  have ha : gAll st (.lst [D.bl true]) = some (.bl true) := rfl
  exact runB_rt (is_shape _ _ (.lst [d]) 1 st _ (.inr rfl) rfl hc ha)
theorem flag_ok (b : Bool) (st : Store) (g : Good st) : f__law_flag [.bl b, .bl b] st = some (.ok (.bl true) st) :=
  scp_same (by simp [b__law_flag]) rfl rfl g
/-! the hand -/
def HandOk (o : O) : Prop := ∃ (cs : List Int) (pos : Nat) (big mix more : Int), o = .lst [.lst (cs.map .int), .int (pos : Int), .int big, .int mix, .int more]
theorem hand_below (n : Nat) {o : O} (h : HandOk o) : belowO n o = true := by
  obtain ⟨cs, pos, big, mix, more, rfl⟩ := h
  have : belows n (cs.map D.int) = true := belows_map n D.int (fun _ => rfl) cs
  show (belows n (cs.map D.int) && (true && (true && (true && (true && true))))) = true
  rw [this]; rfl
theorem hand_good {o : O} {rest : Store} {n : Nat} (h : HandOk o) (hn : n = rest.length + 1) (g : rest.all (belowO n) = true) : Good (o :: rest) := by
  show okSt (rest.length + 1) (o :: rest) = true
  rw [← hn]
  show (belowO n o && rest.all (belowO n)) = true
  rw [hand_below n h, g]; rfl
theorem good_rest {o : O} {rest : Store} (g : Good (o :: rest)) : rest.all (belowO (rest.length + 1)) = true := by
  have g : (belowO (rest.length + 1) o && rest.all (belowO (rest.length + 1))) = true := g
  rw [Bool.and_eq_true] at g
  exact g.2
theorem good_swap {o o' : O} {rest : Store} (h : HandOk o') (g : Good (o :: rest)) : Good (o' :: rest) := hand_good h rfl (good_rest g)
theorem put_ok {a : E} {σ : Mi.Env} {st : Store} {d : D} {l : Nat} {k : Nat} {ds : List D} {o : E} (ha : a σ st = some (.ok d st)) (ho : o σ st = some (.ok (.loc l) st)) (hg : st[l]? = some (.lst ds)) (hk : k < ds.length) : sPut o (eC (.int (k : Int))) a σ st = some (.nx σ (st.set l (.lst (ds.set k d)))) := by
  have e : L2.ixN ds.length (k : Int) = some k := by
    unfold L2.ixN
    rw [if_pos (by omega), if_pos (by omega)]
    rfl
  simp [ha, ho, hg, e]
theorem ix_hand {σ : Mi.Env} {rest : Store} {ds : List D} {k : Nat} {d : D} (hs : σ[0]? = some (some (.loc 0))) (h : ds[k]? = some d) : eIx (eVar 0) (eC (.int (k : Int))) σ (O.lst ds :: rest) = some (.ok d (O.lst ds :: rest)) := by
  have hlt := (List.getElem?_eq_some_iff.mp h).1
  have e := atI_nat ds k hlt
  rw [h] at e
  simp [hs, e]
theorem put_hand {a : E} {σ : Mi.Env} {rest : Store} {ds : List D} {d : D} {k : Nat} (hs : σ[0]? = some (some (.loc 0))) (hk : k < ds.length) (ha : a σ (O.lst ds :: rest) = some (.ok d (O.lst ds :: rest))) : sPut (eVar 0) (eC (.int (k : Int))) a σ (O.lst ds :: rest) = some (.nx σ (O.lst (ds.set k d) :: rest)) :=
  put_ok (l := 0) ha (by simp [hs]) rfl hk
theorem mul_ok {x y : Int} (h : 0 ≤ y) (h2 : y < 18446744073709551616) : oMul (.int x) (.int y) = some (.int (x * y)) := by
  have : mulOk x y = true := by
    unfold mulOk
    rw [Bool.or_eq_true]
    refine .inr ?_
    rw [Bool.and_eq_true]
    exact ⟨decide_eq_true (by omega), decide_eq_true (by omega)⟩
  show (if mulOk x y then some (D.int (x * y)) else none) = _
  rw [if_pos this]
theorem mul_ok' {x y : Int} (h : 0 ≤ x) (h2 : x < 18446744073709551616) : oMul (.int x) (.int y) = some (.int (x * y)) := by
  have : mulOk x y = true := by
    unfold mulOk
    rw [Bool.or_eq_true]
    refine .inl ?_
    rw [Bool.and_eq_true]
    exact ⟨decide_eq_true (by omega), decide_eq_true (by omega)⟩
  show (if mulOk x y then some (D.int (x * y)) else none) = _
  rw [if_pos this]
theorem mod_ok {x y : Int} (h : 0 < y) : oMod (.int x) (.int y) = some (.int (x % y)) := by
  show (if decide (0 < y) then some (D.int (x % y)) else none) = _
  rw [if_pos (decide_eq_true h)]
theorem div_ok {x y : Int} (h : 0 < y) (h2 : y < 1073741824) : oDiv (.int x) (.int y) = some (.int (x / y)) := by
  have : divOk y = true := by
    unfold divOk
    rw [Bool.and_eq_true]
    exact ⟨decide_eq_true h, decide_eq_true h2⟩
  show (if divOk y then some (D.int (x / y)) else none) = _
  rw [if_pos this]
theorem C_ok (d : D) {σ : Mi.Env} {st : Store} : eC d σ st = some (.ok d st) := (rfl)
theorem V_ok {σ : Mi.Env} {st : Store} {i : Nat} {d : D} (h : σ[i]? = some (some d)) : eVar i σ st = some (.ok d st) := by simp [h]
theorem I_ok {a : E} {σ : Mi.Env} {st : Store} {i : Int} (h : a σ st = some (.ok (.int i) st)) : eU' (gU uInt) a σ st = some (.ok (.int i) st) := U_ok h (rfl)
end K45

set_option Elab.async false
set_option linter.all false
set_option autoImplicit false
set_option maxRecDepth 100000
namespace K45
open PySem Mi
section
variable {t u : T} {σ : Mi.Env} {st st1 : Store} {p q : S}
theorem and_no (h : t σ st = some (.ok false st)) : tAnd t u σ st = some (.ok false st) := by simp [h]
theorem and_yes (h : t σ st = some (.ok true st)) : tAnd t u σ st = u σ st := by simp [h]
theorem if_yes (h : t σ st = some (.ok true st)) : sIf t p q σ st = p σ st := by simp [h]
theorem if_no (h : t σ st = some (.ok false st)) : sIf t p q σ st = q σ st := by simp [h]
end
abbrev hand (i : Int) : E := eIx (eVar 0) (eC (.int i))
def d1A : S := (sSeq (sSet 2 (eIx (hand 0) (hand 1)))
      (sSeq (sPut (eVar 0) (eC (.int 1)) (eBin oAdd (hand 1) (eC (.int 1))))
      (sSeq (sPut (eVar 0) (eC (.int 3)) (eBin oMod (eU' (gU uInt) (eBin oAdd (eBin oAdd (eBin oMul (hand 3) (eC (.int 69621))) (eVar 2)) (eC (.int 11)))) (eC (.int 2147483629))))
      (sIf (tCmp dGe (eVar 2) (eBin oPow (eC (.int 10)) (eC (.int 18)))) (sPut (eVar 0) (eC (.int 2)) (eVar 2)) sSkip))))
def d1 : S := (sIf (tAnd (tCmp dEq (hand 2) (eC (.int 0))) (tCmp dLt (hand 1) (eU' gLen (hand 0)))) d1A sSkip)
abbrev HD (cs : List Int) (pos : Nat) (big mix more : Int) : List D := [.lst (cs.map .int), .int (pos : Int), .int big, .int mix, .int more]
theorem pow_ok : oPow (.int 10) (.int 18) = some (.int 1000000000000000000) := by rfl
theorem draw1 (cs : List Int) (pos : Nat) (big mix more m : Int) (rest : Store) : ∃ (pos' : Nat) (big' mix' : Int) (c : Option D), d1 [some (.loc 0), some (.int m), none, none, none] (.lst (HD cs pos big mix more) :: rest) = some (.nx [some (.loc 0), some (.int m), c, none, none] (.lst (HD cs pos' big' mix' more) :: rest)) := by
  have i0 : ∀ (pos : Nat) (big mix : Int) (c : Option D), hand 0 [some (.loc 0), some (.int m), c, none, none] (O.lst (HD cs pos big mix more) :: rest) = some (.ok (.lst (cs.map .int)) (O.lst (HD cs pos big mix more) :: rest)) := fun pos big mix c => ix_hand (k := 0) rfl rfl
  have i1 : ∀ (pos : Nat) (big mix : Int) (c : Option D), hand 1 [some (.loc 0), some (.int m), c, none, none] (O.lst (HD cs pos big mix more) :: rest) = some (.ok (.int (pos : Int)) (O.lst (HD cs pos big mix more) :: rest)) := fun pos big mix c => ix_hand (k := 1) rfl rfl
  have i2 : ∀ (pos : Nat) (big mix : Int) (c : Option D), hand 2 [some (.loc 0), some (.int m), c, none, none] (O.lst (HD cs pos big mix more) :: rest) = some (.ok (.int big) (O.lst (HD cs pos big mix more) :: rest)) := fun pos big mix c => ix_hand (k := 2) rfl rfl
  have i3 : ∀ (pos : Nat) (big mix : Int) (c : Option D), hand 3 [some (.loc 0), some (.int m), c, none, none] (O.lst (HD cs pos big mix more) :: rest) = some (.ok (.int mix) (O.lst (HD cs pos big mix more) :: rest)) := fun pos big mix c => ix_hand (k := 3) rfl rfl
  have c1 : tCmp dEq (hand 2) (eC (.int 0)) [some (.loc 0), some (.int m), none, none, none] (.lst (HD cs pos big mix more) :: rest) = some (.ok (decide (big = 0)) (.lst (HD cs pos big mix more) :: rest)) := cmp_ok (i2 _ _ _ _) (C_ok _) (w_eqi _ _)
  have c2 : tCmp dLt (hand 1) (eU' gLen (hand 0)) [some (.loc 0), some (.int m), none, none, none] (.lst (HD cs pos big mix more) :: rest) = some (.ok (decide ((pos : Int) < cs.length)) (.lst (HD cs pos big mix more) :: rest)) := cmp_ok (i1 _ _ _ _) (U_ok (i0 _ _ _ _) (d := .int cs.length) (by rw [w_len_l, List.length_map])) (z_lt _ _)
  unfold d1
  by_cases hb : big = 0
  · by_cases hp : pos < cs.length
    · have hc : tAnd (tCmp dEq (hand 2) (eC (.int 0))) (tCmp dLt (hand 1) (eU' gLen (hand 0))) [some (.loc 0), some (.int m), none, none, none] (.lst (HD cs pos big mix more) :: rest) = some (.ok true (.lst (HD cs pos big mix more) :: rest)) := by
        rw [and_yes (c1.trans (by rw [decide_eq_true hb])), c2, decide_eq_true (by omega)]
      have hcell : eIx (hand 0) (hand 1) [some (.loc 0), some (.int m), none, none, none] (.lst (HD cs pos big mix more) :: rest) = some (.ok (.int (cs.getD pos 0)) (.lst (HD cs pos big mix more) :: rest)) := by
        have e : itemAt (cs.map D.int) (pos : Int) = some (.int (cs.getD pos 0)) := by
          rw [atI_nat _ _ (by rw [List.length_map]; exact hp), List.getElem?_map, List.getElem?_eq_getElem hp, List.getD_eq_getElem?_getD, List.getElem?_eq_getElem hp]
          rfl
        have a := i0 pos big mix none
        have b := i1 pos big mix none
        generalize hand 0 = h0 at a ⊢
        generalize hand 1 = h1 at b ⊢
        simp [a, b, e]
      generalize cs.getD pos 0 = cell at hcell
      rw [if_yes hc]
      unfold d1A
      have p1 := put_hand (σ := [some (.loc 0), some (.int m), some (.int cell), none, none]) (rest := rest) (ds := HD cs pos big mix more) (k := 1) (a := eBin oAdd (hand 1) (eC (.int 1))) (d := .int ((pos + 1 : Nat) : Int)) rfl (by show 1 < 5; decide) (bin_ok (i1 _ _ _ _) (C_ok _) (by rw [z_add]; rfl))
      refine ⟨pos + 1, if 1000000000000000000 ≤ cell then cell else big, (mix * 69621 + cell + 11) % 2147483629, some (.int cell), ?_⟩
      refine (seq_nx (set_ok hcell (by show 2 < 5; decide))).trans ?_
      refine (seq_nx (st1 := .lst (HD cs (pos + 1) big mix more) :: rest) p1).trans ?_
      have p2 := put_hand (σ := [some (.loc 0), some (.int m), some (.int cell), none, none]) (rest := rest) (ds := HD cs (pos + 1) big mix more) (k := 3) (a := eBin oMod (eU' (gU uInt) (eBin oAdd (eBin oAdd (eBin oMul (hand 3) (eC (.int 69621))) (eVar 2)) (eC (.int 11)))) (eC (.int 2147483629))) (d := .int ((mix * 69621 + cell + 11) % 2147483629)) rfl (by show 3 < 5; decide)
        (bin_ok (I_ok (bin_ok (bin_ok (bin_ok (i3 _ _ _ _) (C_ok _) (mul_ok (by decide) (by decide))) (V_ok rfl) (z_add _ _)) (C_ok _) (z_add _ _))) (C_ok _) (mod_ok (by decide)))
      refine (seq_nx (st1 := .lst (HD cs (pos + 1) big ((mix * 69621 + cell + 11) % 2147483629) more) :: rest) p2).trans ?_
      generalize (mix * 69621 + cell + 11) % 2147483629 = mix'
      have c3 : tCmp dGe (eVar 2) (eBin oPow (eC (.int 10)) (eC (.int 18))) [some (.loc 0), some (.int m), some (.int cell), none, none] (.lst (HD cs (pos + 1) big mix' more) :: rest) = some (.ok (decide (1000000000000000000 ≤ cell)) (.lst (HD cs (pos + 1) big mix' more) :: rest)) := cmp_ok (V_ok rfl) (bin_ok (C_ok _) (C_ok _) pow_ok) (z_ge _ _)
      by_cases hbig : 1000000000000000000 ≤ cell
      · rw [if_pos hbig]
        refine (if_yes (c3.trans (by rw [decide_eq_true hbig]))).trans ?_
        exact put_hand (k := 2) rfl (by show 2 < 5; decide) (V_ok rfl)
      · rw [if_neg hbig]
        exact if_no (c3.trans (by rw [decide_eq_false hbig]))
    · refine ⟨pos, big, mix, none, ?_⟩
      exact if_no ((and_yes (c1.trans (by rw [decide_eq_true hb]))).trans (c2.trans (by rw [decide_eq_false (by omega)])))
  · refine ⟨pos, big, mix, none, ?_⟩
    exact if_no (and_no (c1.trans (by rw [decide_eq_false hb])))
end K45

set_option Elab.async false
set_option linter.all false
set_option autoImplicit false
set_option maxRecDepth 100000
namespace K45
open PySem Mi
theorem draw_rest (cs : List Int) (pos : Nat) (big mix more : Int) (m : Nat) (hm : 1 ≤ m) (hm2 : m ≤ 1000) (rest : Store) (c : Option D) : ∃ (v : Int) (big' more' : Int), 0 ≤ v ∧ v < m ∧ (sSeq (sIf (tCmp dGt (hand 2) (eC (.int 0))) (sSeq (sSet 3 (eBin oMod (eU' (gU uInt) (hand 2)) (eVar 1)))
      (sSeq (sPut (eVar 0) (eC (.int 2)) (eBin oDiv (hand 2) (eVar 1)))
      (sRet (eVar 3)))) sSkip)
      (sSeq (sPut (eVar 0) (eC (.int 4)) (eBin oAdd (hand 4) (eC (.int 1))))
      (sSeq (sSet 4 (eBin oMod (eU' (gU uInt) (eBin oMul (eU' (gU uInt) (eBin oAdd (hand 3) (eBin oMul (eC (.int 7919)) (hand 4)))) (eC (.int 48271)))) (eC (.int 2147483647))))
      (sSeq (sSet 4 (eBin oMod (eU' (gU uInt) (eBin oMul (eVar 4) (eBin oAdd (eBin oDiv (eVar 4) (eC (.int 1009))) (eC (.int 69621))))) (eC (.int 2147483647))))
      (sSeq (sSet 4 (eBin oMod (eU' (gU uInt) (eBin oMul (eVar 4) (eBin oAdd (eBin oDiv (eVar 4) (eC (.int 2003))) (eC (.int 40692))))) (eC (.int 2147483399))))
      (sRet (eBin oMod (eU' (gU uInt) (eBin oDiv (eVar 4) (eC (.int 16)))) (eVar 1)))))))) [some (.loc 0), some (dN m), c, none, none] (.lst (HD cs pos big mix more) :: rest) = some (.rt (.int v) (.lst (HD cs pos big' mix more') :: rest)) := by
  have i2 : ∀ (big more : Int) (a b : Option D), hand 2 [some (.loc 0), some (dN m), c, a, b] (O.lst (HD cs pos big mix more) :: rest) = some (.ok (.int big) (O.lst (HD cs pos big mix more) :: rest)) := fun big more a b => ix_hand (k := 2) rfl rfl
  have i3 : ∀ (big more : Int) (a b : Option D), hand 3 [some (.loc 0), some (dN m), c, a, b] (O.lst (HD cs pos big mix more) :: rest) = some (.ok (.int mix) (O.lst (HD cs pos big mix more) :: rest)) := fun big more a b => ix_hand (k := 3) rfl rfl
  have i4 : ∀ (big more : Int) (a b : Option D), hand 4 [some (.loc 0), some (dN m), c, a, b] (O.lst (HD cs pos big mix more) :: rest) = some (.ok (.int more) (O.lst (HD cs pos big mix more) :: rest)) := fun big more a b => ix_hand (k := 4) rfl rfl
  have hm0 : (0 : Int) < (m : Int) := by omega
  have c1 : tCmp dGt (hand 2) (eC (.int 0)) [some (.loc 0), some (dN m), c, none, none] (.lst (HD cs pos big mix more) :: rest) = some (.ok (decide (0 < big)) (.lst (HD cs pos big mix more) :: rest)) := cmp_ok (i2 _ _ _ _) (C_ok _) (z_gt _ _)
  by_cases hb : 0 < big
  · refine ⟨big % m, big / m, more, Int.emod_nonneg _ (by omega), Int.emod_lt_of_pos _ hm0, ?_⟩
    refine seq_rt ((if_yes (c1.trans (by rw [decide_eq_true hb]))).trans ?_)
    refine (seq_nx (set_ok (bin_ok (I_ok (i2 _ _ _ _)) (V_ok rfl) (mod_ok hm0)) (by show 3 < 5; decide))).trans ?_
    have p1 := put_hand (σ := [some (.loc 0), some (dN m), c, some (.int (big % m)), none]) (rest := rest) (ds := HD cs pos big mix more) (k := 2) (a := eBin oDiv (hand 2) (eVar 1)) (d := .int (big / m)) rfl (by show 2 < 5; decide) (bin_ok (i2 _ _ _ _) (V_ok rfl) (div_ok hm0 (by omega)))
    refine (seq_nx (st1 := .lst (HD cs pos (big / m) mix more) :: rest) p1).trans ?_
    exact ret_ok (V_ok rfl)
  · have p1 := put_hand (σ := [some (.loc 0), some (dN m), c, none, none]) (rest := rest) (ds := HD cs pos big mix more) (k := 4) (a := eBin oAdd (hand 4) (eC (.int 1))) (d := .int (more + 1)) rfl (by show 4 < 5; decide) (bin_ok (i4 _ _ _ _) (C_ok _) (z_add _ _))
    have hn1 : 0 ≤ ((mix + 7919 * (more + 1)) * 48271) % 2147483647 ∧ ((mix + 7919 * (more + 1)) * 48271) % 2147483647 < 2147483647 := ⟨Int.emod_nonneg _ (by decide), Int.emod_lt_of_pos _ (by decide)⟩
    have s1 : ∀ x : D, sSet 4 (eBin oMod (eU' (gU uInt) (eBin oMul (eU' (gU uInt) (eBin oAdd (hand 3) (eBin oMul (eC (.int 7919)) (hand 4)))) (eC (.int 48271)))) (eC (.int 2147483647))) [some (.loc 0), some (dN m), c, none, none] (.lst (HD cs pos big mix (more + 1)) :: rest) = some (.nx [some (.loc 0), some (dN m), c, none, some (.int (((mix + 7919 * (more + 1)) * 48271) % 2147483647))] (.lst (HD cs pos big mix (more + 1)) :: rest)) := fun _ =>
      set_ok (bin_ok (I_ok (bin_ok (I_ok (bin_ok (i3 _ _ _ _) (bin_ok (C_ok _) (i4 _ _ _ _) (mul_ok' (by decide) (by decide))) (z_add _ _))) (C_ok _) (mul_ok (by decide) (by decide)))) (C_ok _) (mod_ok (by decide))) (by show 4 < 5; decide)
    generalize ((mix + 7919 * (more + 1)) * 48271) % 2147483647 = n1 at hn1 s1
    have hn2 : 0 ≤ (n1 * (n1 / 1009 + 69621)) % 2147483647 ∧ (n1 * (n1 / 1009 + 69621)) % 2147483647 < 2147483647 := ⟨Int.emod_nonneg _ (by decide), Int.emod_lt_of_pos _ (by decide)⟩
    have s2 : ∀ x : D, sSet 4 (eBin oMod (eU' (gU uInt) (eBin oMul (eVar 4) (eBin oAdd (eBin oDiv (eVar 4) (eC (.int 1009))) (eC (.int 69621))))) (eC (.int 2147483647))) [some (.loc 0), some (dN m), c, none, some (.int n1)] (.lst (HD cs pos big mix (more + 1)) :: rest) = some (.nx [some (.loc 0), some (dN m), c, none, some (.int ((n1 * (n1 / 1009 + 69621)) % 2147483647))] (.lst (HD cs pos big mix (more + 1)) :: rest)) := fun _ =>
      set_ok (bin_ok (I_ok (bin_ok (V_ok rfl) (bin_ok (bin_ok (V_ok rfl) (C_ok _) (div_ok (by decide) (by decide))) (C_ok _) (z_add _ _)) (mul_ok' hn1.1 (by omega)))) (C_ok _) (mod_ok (by decide))) (by show 4 < 5; decide)
    generalize (n1 * (n1 / 1009 + 69621)) % 2147483647 = n2 at hn2 s2
    have s3 : ∀ x : D, sSet 4 (eBin oMod (eU' (gU uInt) (eBin oMul (eVar 4) (eBin oAdd (eBin oDiv (eVar 4) (eC (.int 2003))) (eC (.int 40692))))) (eC (.int 2147483399))) [some (.loc 0), some (dN m), c, none, some (.int n2)] (.lst (HD cs pos big mix (more + 1)) :: rest) = some (.nx [some (.loc 0), some (dN m), c, none, some (.int ((n2 * (n2 / 2003 + 40692)) % 2147483399))] (.lst (HD cs pos big mix (more + 1)) :: rest)) := fun _ =>
      set_ok (bin_ok (I_ok (bin_ok (V_ok rfl) (bin_ok (bin_ok (V_ok rfl) (C_ok _) (div_ok (by decide) (by decide))) (C_ok _) (z_add _ _)) (mul_ok' hn2.1 (by omega)))) (C_ok _) (mod_ok (by decide))) (by show 4 < 5; decide)
    generalize (n2 * (n2 / 2003 + 40692)) % 2147483399 = n3 at s3
    refine ⟨(n3 / 16) % m, big, more + 1, Int.emod_nonneg _ (by omega), Int.emod_lt_of_pos _ hm0, ?_⟩
    refine (seq_nx ((if_no (c1.trans (by rw [decide_eq_false hb]))).trans (x_skip ..))).trans ?_
    refine (seq_nx (st1 := .lst (HD cs pos big mix (more + 1)) :: rest) p1).trans ?_
    refine (seq_nx (s1 .non)).trans ?_
    refine (seq_nx (s2 .non)).trans ?_
    refine (seq_nx (s3 .non)).trans ?_
    exact ret_ok (bin_ok (I_ok (bin_ok (V_ok rfl) (C_ok _) (div_ok (by decide) (by decide)))) (V_ok rfl) (mod_ok hm0))
theorem draw_ok (o : O) (rest : Store) (h : HandOk o) (g : Good (o :: rest)) (m : Nat) (hm : 1 ≤ m) (hm2 : m ≤ 1000) : ∃ (d : Nat) (o' : O), d < m ∧ HandOk o' ∧ f__law_draw [.loc 0, dN m] (o :: rest) = some (.ok (dN d) (o' :: rest)) := by
  obtain ⟨cs, pos, big, mix, more, rfl⟩ := h
  obtain ⟨pos1, big1, mix1, c, e1⟩ := draw1 cs pos big mix more m rest
  obtain ⟨v, big2, more2, h0, h1, e2⟩ := draw_rest cs pos1 big1 mix1 more m hm hm2 rest c
  have hv : (v.toNat : Int) = v := Int.toNat_of_nonneg h0
  refine ⟨v.toNat, .lst (HD cs pos1 big2 mix1 more2), by omega, ⟨_, _, _, _, _, rfl⟩, ?_⟩
  rw [show dN v.toNat = .int v by rw [← hv]; rfl]
  refine scp_keep (runB_rt ?_) rfl (by simp) rfl (good_swap ⟨_, _, _, _, _, rfl⟩ g)
  exact (seq_nx e1).trans e2
end K45

set_option Elab.async false
set_option linter.all false
set_option autoImplicit false
set_option maxRecDepth 100000
namespace K45
open PySem Mi
theorem scp_gen {m : M D} {st st1 ext : Store} {d : D} (h : m st = some (.ok d (st1 ++ ext))) (hn : st1.length = st.length) (hl : isLoc d = false) (hb : below st.length d = true) (g : Good st1) : scp m st = some (.ok d st1) := by
  unfold scp; rw [h]
  show (if below st.length (thaw st.length (st1 ++ ext) d) && okSt st.length ((st1 ++ ext).take st.length) then some (R.ok (thaw st.length (st1 ++ ext) d) ((st1 ++ ext).take st.length)) else none) = _
  have g' : okSt st.length st1 = true := by rw [← hn]; exact g
  rw [thaw_id hl, ← hn, List.take_left, hn, hb, g']; rfl
theorem good1 {o : O} (h : HandOk o) : Good [o] := hand_good h rfl rfl
theorem good2 {o : O} (h : HandOk o) (ps : List (List Nat)) : Good [o, .lst (ps.map nums)] := hand_good h rfl (by
  show (belows 2 (ps.map nums) && true) = true
  rw [belows_wD]; rfl)
abbrev Rs (ps : List (List Nat)) : Store := [.lst (ps.map nums)]
def tDraw : T := (tAnd (tCmp dNe (eVar 5) (eVar 4)) (tCmp dLt (eCall f__law_draw (eCons (eVar 0) (eCons (eC (.int 12)) eNil))) (eVar 2)))
theorem tDraw_ok (m s : Nat) (P b : Option D) (x y : Nat) (ps : List (List Nat)) (o : O) (h : HandOk o) : ∃ (k : Bool) (o' : O), HandOk o' ∧ (k = true → y ≠ x) ∧ tDraw [some (.loc 0), some (dN m), some (dN s), P, some (dN x), some (dN y)] (o :: Rs ps) = some (.ok k (o' :: Rs ps)) := by
  obtain ⟨d, o', h1, h2, h3⟩ := draw_ok o (Rs ps) h (good2 h ps) 12 (by decide) (by decide)
  unfold tDraw
  by_cases hxy : y = x
  · refine ⟨false, o, h, (fun z => nomatch z), ?_⟩
    exact and_no (cmp_ok (x := dN y) (y := dN x) (V_ok rfl) (V_ok rfl) (by rw [hxy, w_nei]; simp))
  · refine ⟨decide (d < s), o', h2, fun _ => hxy, ?_⟩
    refine (and_yes (cmp_ok (x := dN y) (y := dN x) (V_ok rfl) (V_ok rfl) (by rw [w_nei, decide_eq_true (by omega)]))).trans ?_
    generalize f__law_draw = F at h3 ⊢
    have h3 : F [.loc 0, .int 12] (o :: Rs ps) = some (.ok (dN d) (o' :: Rs ps)) := h3
    generalize Rs ps = R at h3 ⊢
    simp [h3]
theorem comp_draw (m s : Nat) (P : Option D) (x : Nat) (ps : List (List Nat)) : ∀ (xs : List Nat) (o : O), HandOk o → ∃ (ys : List Nat) (o' : O), HandOk o' ∧ ys.Sublist xs ∧ (∀ y ∈ ys, y ≠ x) ∧ compFix (gVar 5) tDraw (eVar 5) [some (.loc 0), some (dN m), some (dN s), P, some (dN x), none] (xs.map dN) (o :: Rs ps) = some (.ok (ys.map dN) (o' :: Rs ps))
  | [], o, h => ⟨[], o, h, .slnil, (fun _ z => nomatch z), rfl⟩
  | y :: xs, o, h => by
    obtain ⟨k, o1, h1, hk, e1⟩ := tDraw_ok m s P none x y ps o h
    obtain ⟨ys, o2, h2, sb, hy, e2⟩ := comp_draw m s P x ps xs o1 h1
    rw [List.map_cons]
    unfold compFix
    have eg : gVar 5 (dN y) [some (.loc 0), some (dN m), some (dN s), P, some (dN x), none] = some [some (.loc 0), some (dN m), some (dN s), P, some (dN x), some (dN y)] := rfl
    rw [eg]
    dsimp only
    rw [bndN_ok e1]
    cases k with
    | true =>
      refine ⟨y :: ys, o2, h2, sb.cons₂ y, fun z hz => ?_, ?_⟩
      · rcases List.mem_cons.mp hz with rfl | hz
        · exact hk rfl
        · exact hy z hz
      · rw [if_pos rfl, bndN_ok (V_ok (d := dN y) rfl), bndN_ok e2]
        rfl
    | false =>
      refine ⟨ys, o2, h2, sb.cons y, hy, ?_⟩
      rw [if_neg Bool.false_ne_true]
      exact e2
def PkOk (many : Nat) (ps : List (List Nat)) : Prop := ∀ (i : Nat) (q : List Nat), ps[i]? = some q → q.Pairwise (· < ·) ∧ (∀ x ∈ q, x < many) ∧ i ∉ q
def webI (many s : Nat) (p : List Nat) (σ : Mi.Env) (st : Store) : Prop := ∃ (ps : List (List Nat)) (o : O) (a b : Option D), HandOk o ∧ σ = [some (.loc 0), some (dN many), some (dN s), some (.loc 1), a, b] ∧ st = o :: Rs ps ∧ ps.length = p.length ∧ PkOk many ps
def webB : S := (sApp (eVar 3) (eU' Mi.gTup (eL (lComp (iRange (eVar 1)) (gVar 5) tDraw (eVar 5) [5]))))
theorem web_step (many s : Nat) (hm : many ≤ 8) (p : List Nat) (x : Nat) (q : List Nat) (σ : Mi.Env) (st : Store) (e : p ++ x :: q = [] ++ List.range many) (i0 : webI many s p σ st) : ∃ σ1 σ2 st2, gVar 4 (dN x) σ = some σ1 ∧ webB σ1 st = some (.nx σ2 st2) ∧ webI many s (p ++ [x]) σ2 st2 := by
  obtain ⟨ps, o, a, b, ho, rfl, rfl, hl, hp⟩ := i0
  have hlen := congrArg List.length e
  simp at hlen
  have hx : x = p.length := by
    have h1 : (p ++ x :: q)[p.length]? = some x := by rw [List.getElem?_append_right (Nat.le_refl _), Nat.sub_self]; rfl
    rw [e, List.nil_append, List.getElem?_range (by omega)] at h1
    exact (Option.some.inj h1).symm
  obtain ⟨ys, o', h', sb, hy, ec⟩ := comp_draw many s (some (.loc 1)) x ps (List.range many) o ho
  have hyl : ys.length ≤ many := by have := sb.length_le; simpa using this
  have hc : lComp (iRange (eVar 1)) (gVar 5) tDraw (eVar 5) [5] [some (.loc 0), some (dN many), some (dN s), some (.loc 1), some (dN x), b] (o :: Rs ps) = some (.ok (nsD ys) (o' :: Rs ps)) := by
    refine lComp_fix (ds := (List.range many).map dN) (st1 := o :: Rs ps) ?_ ec (okLen_le (by rw [nsD_len]; omega))
    have hs : small62 (many : Int) = true := small_nat _ (by omega)
    simp [hs, rangeD_0, nsD]
  refine ⟨_, _, _, rfl, app_ok (l := 1) (ds0 := ps.map nums) (ds := ps.map nums) (d := nums ys) (st1 := o' :: Rs ps) (V_ok rfl) rfl (U_ok (L_ok hc) rfl) rfl (by rw [List.length_map]; omega), ps ++ [ys], o', some (dN x), b, h', rfl, ?_, by simp [hl], ?_⟩
  · show o' :: [O.lst (ps.map nums ++ [nums ys])] = o' :: [O.lst ((ps ++ [ys]).map nums)]
    rw [List.map_append]
    rfl
  · intro i q hq
    by_cases hi : i < ps.length
    · rw [List.getElem?_append_left hi] at hq
      exact hp i q hq
    · rw [List.getElem?_append_right (by omega)] at hq
      have h0 : i - ps.length = 0 := by
        have := (List.getElem?_eq_some_iff.mp hq).1
        simp at this; omega
      rw [h0] at hq
      cases hq
      refine ⟨(List.pairwise_lt_range).sublist sb, fun z hz => List.mem_range.mp (sb.subset hz), fun z => ?_⟩
      exact hy i z (by omega)
theorem web_ok (o : O) (h : HandOk o) (many s : Nat) (hm0 : 1 ≤ many) (hm : many ≤ 8) : ∃ (w : List (List Nat)) (o' : O), HandOk o' ∧ Web w ∧ f__law_web [.loc 0, dN many, dN s] [o] = some (.ok (wD w) [o']) := by
  obtain ⟨σ', st', e, ps, o', a, b, ho, rfl, rfl, hl, hp⟩ := forFix_ind (g := gVar 4) (b := webB) dN (webI many s) (List.range many) [] [some (.loc 0), some (dN many), some (dN s), some (.loc 1), none, none] (o :: Rs []) (web_step many s hm) ⟨[], o, none, none, h, rfl, rfl, rfl, fun i q hq => nomatch hq⟩
  rw [List.nil_append, List.length_range] at hl
  refine ⟨ps, o', ho, ⟨by omega, by omega, ?_, ?_, ?_⟩, ?_⟩
  · intro p hpm
    obtain ⟨i, hi⟩ := List.mem_iff_getElem?.mp hpm
    exact (hp i p hi).1
  · intro p hpm
    obtain ⟨i, hi⟩ := List.mem_iff_getElem?.mp hpm
    rw [hl]
    exact (hp i p hi).2.1
  · intro i p hpm
    have := List.mem_zipIdx_iff_getElem?.mp hpm
    exact (hp i p (by simpa using this)).2.2
  · refine scp_gen (st1 := [o']) (ext := Rs ps) (runB_rt ?_) rfl rfl (belows_wD _ _) (good1 ho)
    have e0 : iRange (eVar 1) [some (.loc 0), some (dN many), some (dN s), some (.loc 1), none, none] (o :: Rs []) = some (.ok (.fix ((List.range many).map dN)) (o :: Rs [])) := by
      have hs : small62 (many : Int) = true := small_nat _ (by omega)
      simp [hs, rangeD_0, nsD]
    refine (seq_nx (σ1 := [some (.loc 0), some (dN many), some (dN s), some (.loc 1), none, none]) (st1 := o :: Rs []) rfl).trans ?_
    refine (seq_nx ((for_fix e0).trans e)).trans ?_
    exact ret_ok (U_ok (x := .loc 1) (V_ok rfl) (gTup_loc rfl))
theorem some_ok (o : O) (h : HandOk o) (ls : List Nat) (h1 : 1 ≤ ls.length) (h2 : ls.length ≤ 1000) : ∃ (s : Nat) (o' : O), HandOk o' ∧ f__law_some [.loc 0, .lst (nsD ls)] [o] = some (.ok (dN s) [o']) := by
  obtain ⟨d, o', hd, ho, e⟩ := draw_ok o [] h (good1 h) ls.length h1 h2
  refine ⟨ls.getD d 0, o', ho, ?_⟩
  refine scp_keep (runB_rt (ret_ok ?_)) rfl rfl rfl (good1 ho)
  have e2 := itemAt_nsD ls d hd
  generalize ls.getD d 0 = q at e2 ⊢
  have e3 : gLen [o] (.lst (nsD ls)) = some (dN ls.length) := by rw [w_len_l, nsD_len]
  generalize f__law_draw = F at e ⊢
  generalize nsD ls = L at e2 e3 ⊢
  generalize dN ls.length = K at e e3 ⊢
  have e3' : ∀ x, (some (.int (L.length : Int)) : Option D) = x → some K = x := fun x hx => by rw [← e3]; exact hx
  have e4 : K = .int (L.length : Int) := Option.some.inj (e3.symm.trans (w_len_l L))
  rw [e4] at e
  simp [e, e2]
end K45

set_option Elab.async false
set_option linter.all false
set_option autoImplicit false
set_option maxRecDepth 100000
namespace K45
open PySem Mi
theorem cons_ok {a : E} {es : EL} {σ : Mi.Env} {st st1 st2 : Store} {d : D} {ds : List D} (h : a σ st = some (.ok d st1)) (h2 : es σ st1 = some (.ok ds st2)) : eCons a es σ st = some (.ok (d :: ds) st2) := by simp [h, h2]
theorem nil_ok {σ : Mi.Env} {st : Store} : eNil σ st = some (.ok [] st) := (rfl)
theorem bin_ok3 {a b : E} {f : Op} {σ : Mi.Env} {st st1 st2 : Store} {x y z : D} (ha : a σ st = some (.ok x st1)) (hb : b σ st1 = some (.ok y st2)) (h : f x y = some z) : eBin f a b σ st = some (.ok z st2) := by simp [ha, hb, h]
theorem call_ok3 {f : Fn} {es : EL} {σ : Mi.Env} {st st1 : Store} {ds : List D} {r : Option (R D)} (h : es σ st = some (.ok ds st1)) (h2 : f ds st1 = r) : eCall f es σ st = r := by rw [← h2]; simp [h]
theorem drawn_ok (o : O) (h : HandOk o) (most : Nat) (h1 : 1 ≤ most) (h2 : most ≤ 8) : ∃ (w : List (List Nat)) (o' : O), HandOk o' ∧ Web w ∧ f__law_drawn_web [.loc 0, dN most] [o] = some (.ok (wD w) [o']) := by
  obtain ⟨d, o1, hd, ho1, e1⟩ := draw_ok o [] h (good1 h) most h1 (by omega)
  obtain ⟨s, o2, ho2, e2⟩ := some_ok o1 ho1 [2, 4, 6, 8, 10, 11, 11, 12] (by decide) (by decide)
  obtain ⟨w, o3, ho3, hw, e3⟩ := web_ok o2 ho2 (1 + d) s (by omega) (by omega)
  refine ⟨w, o3, ho3, hw, ?_⟩
  refine scp_keep (runB_rt ?_) rfl rfl (belows_wD _ _) (good1 ho3)
  unfold b__law_drawn_web
  have eD : ∀ σ : Mi.Env, eL (lDisp (eCons (eC (.int 2)) (eCons (eC (.int 4)) (eCons (eC (.int 6)) (eCons (eC (.int 8)) (eCons (eC (.int 10)) (eCons (eC (.int 11)) (eCons (eC (.int 11)) (eCons (eC (.int 12)) eNil))))))))) σ [o1] = some (.ok (.lst (nsD [2, 4, 6, 8, 10, 11, 11, 12])) [o1]) := fun σ => by
    refine L_ok (disp_ok (ds := nsD [2, 4, 6, 8, 10, 11, 11, 12]) ?_ (okLen_le (by decide)))
    exact cons_ok (C_ok _) (cons_ok (C_ok _) (cons_ok (C_ok _) (cons_ok (C_ok _) (cons_ok (C_ok _) (cons_ok (C_ok _) (cons_ok (C_ok _) (cons_ok (C_ok _) nil_ok)))))))
  refine (seq_nx (set_ok (d := dN (1 + d)) (bin_ok3 (C_ok _) (call_ok3 (cons_ok (V_ok rfl) (cons_ok (V_ok rfl) nil_ok)) e1) (by rw [z_add]; rfl)) (by show 2 < 3; decide))).trans ?_
  exact ret_ok (call_ok3 (cons_ok (V_ok rfl) (cons_ok (V_ok rfl) (cons_ok (call_ok3 (cons_ok (V_ok rfl) (cons_ok (eD _) nil_ok)) e2) nil_ok))) e3)
theorem hand_ok (xs : List Int) : ∃ o, HandOk o ∧ f__law_hand [.rol (xs.map .int)] [] = some (.ok (.loc 0) [o]) := by
  have hcut : ∃ ys : List Int, ys.length ≤ 63 ∧ cutD (xs.map D.int) none (some 63) = ys.map .int := by
    refine ⟨(xs.drop (HT.sIx (xs.map D.int).length 0 none)).take (HT.sIx (xs.map D.int).length (xs.map D.int).length (some 63) - HT.sIx (xs.map D.int).length 0 none), ?_, ?_⟩
    · have : HT.sIx (xs.map D.int).length (xs.map D.int).length (some 63) ≤ 63 := by
        show (if (63 : Int) < 0 then ((63 : Int) + ((xs.map D.int).length : Int)).toNat else min (63 : Int).toNat (xs.map D.int).length) ≤ 63
        rw [if_neg (by decide)]
        exact Nat.min_le_left _ _
      rw [List.length_take]
      omega
    · unfold cutD
      rw [List.map_take, List.map_drop]
  obtain ⟨ys, hy, hcut⟩ := hcut
  refine ⟨.lst (HD (ys.map fun i => if i < 0 then -i else i) 0 0 (1 + ys.length) 0), ⟨_, _, _, _, _, rfl⟩, ?_⟩
  refine runB_rt ?_
  unfold b__law_hand
  have hc : lComp (iOf (eSl (eVar 0) pNo (pAt (eC (.int 63))))) (gVar 2) tYes (eU' (gU uAbs) (eU' (gU uInt) (eVar 2))) [2] [some (.rol (xs.map .int)), none, none] [] = some (.ok ((ys.map fun i => if i < 0 then -i else i).map .int) []) := by
    rw [List.map_map]
    refine lComp_all D.int (fun i => [some (.rol (xs.map .int)), none, some (.int i)]) _ ys ?_ ?_ ?_ (okLen_le (by omega))
    · refine iOf_lst ?_
      rw [← hcut]
      generalize xs.map D.int = L
      generalize hK : cutD L none (some 63) = K
      have : dSl [] (.rol L) none (some 63) = some (.lst K) := by rw [← hK]; rfl
      simp [this]
    · intro i _; simp
    · intro i _; exact U_ok (I_ok (V_ok rfl)) (w_uAbs i)
  refine (seq_nx (set_ok (L_ok hc) (by show 1 < 3; decide))).trans ?_
  have e : eBin oAdd (eC (.int 1)) (eU' gLen (eVar 1)) [some (.rol (xs.map .int)), some (.lst ((ys.map fun i => if i < 0 then -i else i).map .int)), none] [] = some (.ok (.int (1 + ys.length)) []) := by
    refine bin_ok (C_ok _) (U_ok (V_ok rfl) (w_len_l _)) ?_
    rw [z_add, List.length_map, List.length_map]
  have e5 : lDisp (eCons (eVar 1) (eCons (eC (.int 0)) (eCons (eC (.int 0)) (eCons (eBin oAdd (eC (.int 1)) (eU' gLen (eVar 1))) (eCons (eC (.int 0)) eNil))))) [some (.rol (xs.map .int)), some (.lst ((ys.map fun i => if i < 0 then -i else i).map .int)), none] [] = some (.ok (HD (ys.map fun i => if i < 0 then -i else i) 0 0 (1 + ys.length) 0) []) :=
    disp_ok (cons_ok (V_ok rfl) (cons_ok (C_ok _) (cons_ok (C_ok _) (cons_ok e (cons_ok (C_ok _) nil_ok))))) (okLen_le (by show 5 ≤ 1000; decide))
  refine ret_ok ?_
  rw [x_New]
  exact (bnd_ok e5).trans rfl
end K45

set_option Elab.async false
set_option linter.all false
set_option autoImplicit false
set_option maxRecDepth 100000
namespace K45
open PySem Mi
theorem if_true_ok {t : T} {a b : E} {σ : Mi.Env} {st st1 : Store} {k : Bool} {r : Option (R D)} (h : t σ st = some (.ok k st1)) (h2 : (if k then a σ st1 else b σ st1) = r) : eIf t a b σ st = r := by rw [← h2]; cases k <;> simp [h]
theorem or_no {t u : T} {σ : Mi.Env} {st : Store} (h : t σ st = some (.ok false st)) : tOr t u σ st = u σ st := by simp [h]
theorem or_yes {t u : T} {σ : Mi.Env} {st : Store} (h : t σ st = some (.ok true st)) : tOr t u σ st = some (.ok true st) := by simp [h]
theorem not_ok {t : T} {σ : Mi.Env} {st : Store} {k : Bool} (h : t σ st = some (.ok k st)) : tNot t σ st = some (.ok (!k) st) := by simp [h]
theorem E_ok {a : E} {σ : Mi.Env} {st : Store} {k : Bool} (h : a σ st = some (.ok (.bl k) st)) : tE a σ st = some (.ok k st) := by simp [h]
theorem B_ok {t : T} {σ : Mi.Env} {st : Store} {k : Bool} (h : t σ st = some (.ok k st)) : eB t σ st = some (.ok (.bl k) st) := by simp [h]
def Lit (w : List (List Nat)) (x o a : D) (b5 b6 : Option D) : Mi.Env := [some x, some (.loc 0), some a, some (wD w), some o, b5, b6]
def inB : S := (sSeq (sSet 6 (eIf (tOr (tCmp dIsN' (eVar 4) (eC .non)) (tCmp dGt (eU' gLen (eVar 4)) (eVar 5))) (eC .non) (eVar 4)))
      (sIf (tOr (tNot (tE (eCall (f__law_is 8) (eCons (eL (lDisp (eCons (eCall f_weak (eCons (eVar 3) (eCons (eVar 5) eNil))) eNil))) (eCons (eL (lDisp (eCons (eVar 6) eNil))) eNil))))) (tNot (tE (eCall f__law_flag (eCons (eCall f_firm (eCons (eVar 3) (eCons (eVar 5) eNil))) (eCons (eB (tCmp dIsN' (eVar 6) (eC .non))) eNil)))))) (sRet (eC (.bl false))) sSkip))
theorem isN_ok {a : E} {σ : Mi.Env} {st : Store} {o : Option (List Nat)} (h : a σ st = some (.ok (optD o) st)) : tCmp dIsN' a (eC .non) σ st = some (.ok o.isNone st) :=
  cmp_ok h (C_ok _) (by rw [w_isN, optD_non]; rfl)
theorem due_ok (w : List (List Nat)) (h : Web w) (k : Nat) (hk : k < 10) (x a : D) (b6 : Option D) (st : Store) : eIf (tOr (tCmp dIsN' (eVar 4) (eC .non)) (tCmp dGt (eU' gLen (eVar 4)) (eVar 5))) (eC .non) (eVar 4) (Lit w x (optD (weakest w)) a (some (dN k)) b6) st = some (.ok (optD (fw w k)) st) := by
  have e1 : tCmp dIsN' (eVar 4) (eC .non) (Lit w x (optD (weakest w)) a (some (dN k)) b6) st = some (.ok (weakest w).isNone st) := isN_ok (V_ok rfl)
  rw [fw_eq w h k hk]
  cases hw : weakest w with
  | none =>
    rw [hw] at e1
    exact if_true_ok (or_yes e1) (by rw [if_pos rfl]; rfl)
  | some l =>
    rw [hw] at e1
    refine if_true_ok (k := decide ((k : Int) < l.length)) ((or_no e1).trans (cmp_ok (U_ok (x := nums l) (d := .int l.length) (V_ok rfl) (by rw [w_len_t, nsD_len])) (V_ok (d := dN k) rfl) (z_gt _ _))) ?_
    by_cases hl : l.length ≤ k
    · rw [decide_eq_false (by omega), if_neg Bool.false_ne_true]
      simp only [if_pos hl]
      exact V_ok rfl
    · rw [decide_eq_true (by omega), if_pos rfl]
      simp only [if_neg hl]
      rfl
theorem in_step (w : List (List Nat)) (h : Web w) (x a : D) (b6 : Option D) (k : Nat) (hk : k < 10) (st : Store) (g : Good st) : inB (Lit w x (optD (weakest w)) a (some (dN k)) b6) st = some (.nx (Lit w x (optD (weakest w)) a (some (dN k)) (some (optD (fw w k)))) st) := by
  unfold inB
  refine (seq_nx (σ1 := Lit w x (optD (weakest w)) a (some (dN k)) (some (optD (fw w k)))) (set_ok (due_ok w h k hk x a b6 st) (by show 6 < 7; decide))).trans ?_
  have ew := weak_ok w h k hk st g
  have ef := firm_ok w h k hk st g
  have hle : ∀ l, fw w k = some l → l.length ≤ 9 := fun l e => by
    have hn : w.length < 9 := by have := h.hi; omega
    have hm := List.mem_of_find?_eq_some e
    rw [((lots_facts w.length hn).2.2.2 k hk).1] at hm
    have := of_decide_eq_true (List.all_eq_true.mp (lots_le _ hn) l (List.mem_filter.mp hm).1)
    omega
  have ei := is_one 7 (optD (fw w k)) st (is_opt 5 (fw w k) hle st g) g
  have eg := flag_ok (fw w k).isNone st g
  have t1 : tNot (tE (eCall (f__law_is 8) (eCons (eL (lDisp (eCons (eCall f_weak (eCons (eVar 3) (eCons (eVar 5) eNil))) eNil))) (eCons (eL (lDisp (eCons (eVar 6) eNil))) eNil)))) (Lit w x (optD (weakest w)) a (some (dN k)) (some (optD (fw w k)))) st = some (.ok false st) :=
    not_ok (k := true) (E_ok (call_ok3 (cons_ok (L_ok (disp_ok (cons_ok (call_ok3 (cons_ok (V_ok rfl) (cons_ok (V_ok rfl) nil_ok)) ew) nil_ok) (okLen_le (by show 1 ≤ 1000; decide)))) (cons_ok (L_ok (disp_ok (cons_ok (V_ok rfl) nil_ok) (okLen_le (by show 1 ≤ 1000; decide)))) nil_ok)) ei))
  have t2 : tNot (tE (eCall f__law_flag (eCons (eCall f_firm (eCons (eVar 3) (eCons (eVar 5) eNil))) (eCons (eB (tCmp dIsN' (eVar 6) (eC .non))) eNil)))) (Lit w x (optD (weakest w)) a (some (dN k)) (some (optD (fw w k)))) st = some (.ok false st) :=
    not_ok (k := true) (E_ok (call_ok3 (cons_ok (call_ok3 (cons_ok (V_ok rfl) (cons_ok (V_ok rfl) nil_ok)) ef) (cons_ok (B_ok (isN_ok (V_ok rfl))) nil_ok)) eg))
  exact (if_no ((or_no t1).trans t2)).trans rfl
theorem fw_all (w : List (List Nat)) (h : Web w) : fw w w.length = weakest w := by
  rw [fw_eq w h _ (by have := h.hi; omega)]
  cases hw : weakest w with
  | none => rfl
  | some l => simp only [if_pos (weakest_le h hw)]
def outB : S := (sSeq (sSet 3 (eCall f__law_drawn_web (eCons (eVar 1) (eCons (eIf (tAnd (tCmp dEq (eVar 2) (eC (.int 0))) (tCmp dEq (eCall f__law_draw (eCons (eVar 1) (eCons (eC (.int 8)) eNil))) (eC (.int 0)))) (eC (.int 8)) (eC (.int 6))) eNil))))
      (sSeq (sSet 4 (eCall f__law_weakest (eCons (eVar 3) eNil)))
      (sSeq (sFor (iRange (eC (.int 10))) (gVar 5) inB)
      (sSeq (sSet 6 (eIf (tCmp dIsN' (eVar 4) (eC .non)) (eU' gLen (eVar 3)) (eBin oSub (eU' gLen (eVar 4)) (eC (.int 1)))))
      (sIf (tOr (tNot (tE (eCall (f__law_is 8) (eCons (eCall f_greatest_firm (eCons (eVar 3) eNil)) (eCons (eVar 6) eNil))))) (tCmp dNe (eCall f_greatest_firm (eCons (eVar 3) eNil)) (eVar 6))) (sRet (eC (.bl false))) sSkip)))))
def outI (x : D) (p : List Nat) (σ : Mi.Env) (st : Store) : Prop := ∃ (o : O) (a3 a2 a4 a5 a6 : Option D), HandOk o ∧ σ = [some x, some (.loc 0), a2, a3, a4, a5, a6] ∧ st = [o]
theorem most_ok (t : Nat) (x : D) (a3 a4 a5 a6 : Option D) (o : O) (h : HandOk o) : ∃ (most : Nat) (o' : O), 1 ≤ most ∧ most ≤ 8 ∧ HandOk o' ∧ eIf (tAnd (tCmp dEq (eVar 2) (eC (.int 0))) (tCmp dEq (eCall f__law_draw (eCons (eVar 1) (eCons (eC (.int 8)) eNil))) (eC (.int 0)))) (eC (.int 8)) (eC (.int 6)) [some x, some (.loc 0), some (dN t), a3, a4, a5, a6] [o] = some (.ok (dN most) [o']) := by
  have c1 : tCmp dEq (eVar 2) (eC (.int 0)) [some x, some (.loc 0), some (dN t), a3, a4, a5, a6] [o] = some (.ok (decide ((t : Int) = 0)) [o]) := cmp_ok (V_ok (d := dN t) rfl) (C_ok _) (w_eqi _ _)
  by_cases ht : t = 0
  · obtain ⟨d, o', hd, ho, e⟩ := draw_ok o [] h (good1 h) 8 (by decide) (by decide)
    have c2 : tCmp dEq (eCall f__law_draw (eCons (eVar 1) (eCons (eC (.int 8)) eNil))) (eC (.int 0)) [some x, some (.loc 0), some (dN t), a3, a4, a5, a6] [o] = some (.ok (decide ((d : Int) = 0)) [o']) := by
      have e' : eCall f__law_draw (eCons (eVar 1) (eCons (eC (.int 8)) eNil)) [some x, some (.loc 0), some (dN t), a3, a4, a5, a6] [o] = some (.ok (dN d) [o']) := call_ok3 (cons_ok (V_ok rfl) (cons_ok (C_ok _) nil_ok)) e
      generalize eCall f__law_draw (eCons (eVar 1) (eCons (eC (.int 8)) eNil)) = F at e' ⊢
      simp [e']
    have c3 := (and_yes (u := tCmp dEq (eCall f__law_draw (eCons (eVar 1) (eCons (eC (.int 8)) eNil))) (eC (.int 0))) (c1.trans (by rw [decide_eq_true (by omega)]))).trans c2
    by_cases h0 : d = 0
    · exact ⟨8, o', by decide, by decide, ho, if_true_ok c3 (by rw [decide_eq_true (by omega)]; rfl)⟩
    · exact ⟨6, o', by decide, by decide, ho, if_true_ok c3 (by rw [decide_eq_false (by omega)]; rfl)⟩
  · exact ⟨6, o, by decide, by decide, h, if_true_ok (and_no (c1.trans (by rw [decide_eq_false (by omega)]))) rfl⟩
theorem out_step (x : D) (p : List Nat) (t : Nat) (q : List Nat) (σ : Mi.Env) (st : Store) (i0 : outI x p σ st) : ∃ σ1 σ2 st2, gVar 2 (dN t) σ = some σ1 ∧ outB σ1 st = some (.nx σ2 st2) ∧ outI x (p ++ [t]) σ2 st2 := by
  obtain ⟨o, a3, a2, a4, a5, a6, ho, rfl, rfl⟩ := i0
  obtain ⟨most, o1, m1, m2, ho1, em⟩ := most_ok t x a3 a4 a5 a6 o ho
  obtain ⟨w, o2, ho2, hw, ew⟩ := drawn_ok o1 ho1 most m1 m2
  have g := good1 ho2
  have e3 : sSet 3 (eCall f__law_drawn_web (eCons (eVar 1) (eCons (eIf (tAnd (tCmp dEq (eVar 2) (eC (.int 0))) (tCmp dEq (eCall f__law_draw (eCons (eVar 1) (eCons (eC (.int 8)) eNil))) (eC (.int 0)))) (eC (.int 8)) (eC (.int 6))) eNil))) [some x, some (.loc 0), some (dN t), a3, a4, a5, a6] [o] = some (.nx [some x, some (.loc 0), some (dN t), some (wD w), a4, a5, a6] [o2]) :=
    set_ok (call_ok3 (cons_ok (V_ok rfl) (cons_ok em nil_ok)) ew) (by show 3 < 7; decide)
  have e4 : sSet 4 (eCall f__law_weakest (eCons (eVar 3) eNil)) [some x, some (.loc 0), some (dN t), some (wD w), a4, a5, a6] [o2] = some (.nx (Lit w x (optD (weakest w)) (dN t) a5 a6) [o2]) :=
    set_ok (call_ok3 (cons_ok (V_ok rfl) nil_ok) (weakest_ok w hw [o2] g)) (by show 4 < 7; decide)
  obtain ⟨σ', st', ef, b5, b6, rfl, rfl⟩ := forFix_ind (g := gVar 5) (b := inB) dN (fun _ σ st => ∃ b5 b6, σ = Lit w x (optD (weakest w)) (dN t) b5 b6 ∧ st = [o2]) (List.range 10) [] (Lit w x (optD (weakest w)) (dN t) a5 a6) [o2] (fun p k q σ st e i => by
    obtain ⟨b5, b6, rfl, rfl⟩ := i
    have hk : k < 10 := List.mem_range.mp (by rw [show List.range 10 = p ++ k :: q from e.symm]; simp)
    exact ⟨_, _, _, rfl, in_step w hw x (dN t) b6 k hk [o2] g, _, _, rfl, rfl⟩) ⟨_, _, rfl, rfl⟩
  have e5 : sFor (iRange (eC (.int 10))) (gVar 5) inB (Lit w x (optD (weakest w)) (dN t) a5 a6) [o2] = some (.nx (Lit w x (optD (weakest w)) (dN t) b5 b6) [o2]) := by
    refine (for_fix (ds := (List.range 10).map dN) (st1 := [o2]) ?_).trans ef
    have hs : small62 10 = true := small_nat 10 (by decide)
    have hr : rangeD 0 10 = (List.range 10).map dN := rangeD_0 10
    simp [hs, hr]
  have e6 : sSet 6 (eIf (tCmp dIsN' (eVar 4) (eC .non)) (eU' gLen (eVar 3)) (eBin oSub (eU' gLen (eVar 4)) (eC (.int 1)))) (Lit w x (optD (weakest w)) (dN t) b5 b6) [o2] = some (.nx (Lit w x (optD (weakest w)) (dN t) b5 (some (gfD w (weakest w)))) [o2]) := by
    refine set_ok ?_ (by show 6 < 7; decide)
    have c1 : tCmp dIsN' (eVar 4) (eC .non) (Lit w x (optD (weakest w)) (dN t) b5 b6) [o2] = some (.ok (weakest w).isNone [o2]) := isN_ok (V_ok rfl)
    refine if_true_ok c1 ?_
    cases hwk : weakest w with
    | none =>
      rw [show (none : Option (List Nat)).isNone = true from rfl, if_pos rfl]
      exact U_ok (x := wD w) (V_ok rfl) (by rw [w_len_t, List.length_map]; rfl)
    | some l =>
      rw [show (some l).isNone = false from rfl, if_neg Bool.false_ne_true]
      exact bin_ok (U_ok (x := nums l) (d := .int l.length) (V_ok rfl) (by rw [w_len_t, nsD_len])) (C_ok _) (z_sub _ _)
  have eG := greatest_ok w hw [o2] g
  rw [fw_all w hw] at eG
  obtain ⟨i, hi⟩ : ∃ i, gfD w (weakest w) = .int i := by cases weakest w <;> exact ⟨_, rfl⟩
  rw [hi] at eG e6
  have t1 : tNot (tE (eCall (f__law_is 8) (eCons (eCall f_greatest_firm (eCons (eVar 3) eNil)) (eCons (eVar 6) eNil)))) (Lit w x (optD (weakest w)) (dN t) b5 (some (.int i))) [o2] = some (.ok false [o2]) :=
    not_ok (k := true) (E_ok (call_ok3 (cons_ok (call_ok3 (cons_ok (V_ok rfl) nil_ok) eG) (cons_ok (V_ok rfl) nil_ok)) (is_int 7 i [o2] g)))
  have t2 : tCmp dNe (eCall f_greatest_firm (eCons (eVar 3) eNil)) (eVar 6) (Lit w x (optD (weakest w)) (dN t) b5 (some (.int i))) [o2] = some (.ok false [o2]) :=
    cmp_ok (call_ok3 (cons_ok (V_ok rfl) nil_ok) eG) (V_ok rfl) (by rw [w_nei]; simp)
  refine ⟨_, _, _, rfl, (seq_nx e3).trans ((seq_nx e4).trans ((seq_nx e5).trans ((seq_nx e6).trans ((if_no ((or_no t1).trans t2)).trans rfl)))), o2, _, _, _, _, _, ho2, rfl, rfl⟩
theorem law_ok (xs : List Int) : f_law [.rol (xs.map .int)] [] = some (.ok (.bl true) []) := by
  obtain ⟨o, ho, eh⟩ := hand_ok xs
  obtain ⟨σ', st', ef, o', a3, a2, a4, a5, a6, ho', rfl, rfl⟩ := forFix_ind (g := gVar 2) (b := outB) dN (outI (.rol (xs.map .int))) (List.range 3) [] [some (.rol (xs.map .int)), some (.loc 0), none, none, none, none, none] [o] (fun p t q σ st _ i => out_step _ p t q σ st i) ⟨o, _, _, _, _, _, ho, rfl, rfl⟩
  refine scp_own (ext := [o']) (runB_rt ?_) rfl rfl rfl
  unfold b_law
  have e0 : sSet 1 (eCall f__law_hand (eCons (eVar 0) eNil)) [some (.rol (xs.map .int)), none, none, none, none, none, none] [] = some (.nx [some (.rol (xs.map .int)), some (.loc 0), none, none, none, none, none] [o]) :=
    set_ok (call_ok3 (cons_ok (V_ok rfl) nil_ok) eh) (by show 1 < 7; decide)
  have e1 : sFor (iRange (eC (.int 3))) (gVar 2) outB [some (.rol (xs.map .int)), some (.loc 0), none, none, none, none, none] [o] = some (.nx [some (.rol (xs.map .int)), some (.loc 0), a2, a3, a4, a5, a6] [o']) := by
    refine (for_fix (ds := (List.range 3).map dN) (st1 := [o]) ?_).trans ef
    have hs : small62 3 = true := small_nat 3 (by decide)
    have hr : rangeD 0 3 = (List.range 3).map dN := rangeD_0 3
    simp [hs, hr]
  refine (seq_nx e0).trans ?_
  refine (seq_nx (show sFor (iRange (eC (.int 3))) (gVar 2) outB _ _ = _ from e1)).trans ?_
  exact ret_ok (C_ok _)
end K45

set_option Elab.async false
set_option linter.all false
set_option autoImplicit false
set_option maxRecDepth 100000
set_option maxHeartbeats 4000000
namespace K45
open PySem PySem.Spec PyProof.Rows L2 Mi
theorem all_mk {l : PySem.W.OpenLaw} {w : World} {K : PySem.W.Frag} {h : Heap} {mg : Str → Option Value} {fa : Addr} {f0 f1 f2 f3 f4 f5 f6 f7 f8 f9 f10 f11 f12 f13 f14 f15 f16 f17 f18 f19 f20 f21 f22 f23 f24 f25 f26 f27 f28 f29 : Addr} {od0 an0 od1 an1 od2 an2 od3 an3 od4 an4 od5 an5 od6 an6 od7 an7 od8 an8 od9 an9 od10 an10 od11 an11 od12 an12 od13 an13 od14 an14 od15 an15 od16 an16 od17 an17 od18 an18 od19 an19 od20 an20 od21 an21 od22 an22 od23 an23 od24 an24 od25 an25 od26 an26 od27 an27 od28 an28 od29 an29 : Option Addr} {sl0 sl1 sl2 sl3 sl4 sl5 sl6 sl7 sl8 sl9 sl10 sl11 sl12 sl13 sl14 sl15 sl16 sl17 sl18 sl19 sl20 sl21 sl22 sl23 sl24 sl25 sl26 sl27 sl28 sl29 : Array (Option Value)} {oc0 kV0 dc0 pm0 cd0 ct0 oc1 kV1 dc1 pm1 cd1 ct1 oc2 kV2 dc2 pm2 cd2 ct2 oc3 kV3 dc3 pm3 cd3 ct3 oc4 kV4 dc4 pm4 cd4 ct4 oc5 kV5 dc5 pm5 cd5 ct5 oc6 kV6 dc6 pm6 cd6 ct6 oc7 kV7 dc7 pm7 cd7 ct7 oc8 kV8 dc8 pm8 cd8 ct8 oc9 kV9 dc9 pm9 cd9 ct9 oc10 kV10 dc10 pm10 cd10 ct10 oc11 kV11 dc11 pm11 cd11 ct11 oc12 kV12 dc12 pm12 cd12 ct12 oc13 kV13 dc13 pm13 cd13 ct13 oc14 kV14 dc14 pm14 cd14 ct14 oc15 kV15 dc15 pm15 cd15 ct15 oc16 kV16 dc16 pm16 cd16 ct16 oc17 kV17 dc17 pm17 cd17 ct17 oc18 kV18 dc18 pm18 cd18 ct18 oc19 kV19 dc19 pm19 cd19 ct19 oc20 kV20 dc20 pm20 cd20 ct20 oc21 kV21 dc21 pm21 cd21 ct21 oc22 kV22 dc22 pm22 cd22 ct22 oc23 kV23 dc23 pm23 cd23 ct23 oc24 kV24 dc24 pm24 cd24 ct24 oc25 kV25 dc25 pm25 cd25 ct25 oc26 kV26 dc26 pm26 cd26 ct26 oc27 kV27 dc27 pm27 cd27 ct27 oc28 kV28 dc28 pm28 cd28 ct28 oc29 kV29 dc29 pm29 cd29 ct29 : Value} {tk_MOST_PEOPLE : Tok} {tk_MOST_VANISHING : Tok} (X : K.In h) (G : h.Ns mainGlobals mg) (hfa : mg "law" = some (.ref fa))
    (a0 : PySem.W.nsIn K mainGlobals "is_integer" = some (some (.ref f0))) (l0 : K.lookup f0 = some ⟨oc0, od0, .func (PySem.W.fnOf "is_integer" "is_integer" (defArgs s_is_integer) (defBody s_is_integer) (defScope s_is_integer) .none kV0 dc0 pm0 an0 cd0 ct0), sl0⟩) (c0 : PySem.W.codeIn K cd0 "is_integer" = true) (k0 : PySem.W.keepIn K (.ref f0) = true)
    (a1 : PySem.W.nsIn K mainGlobals "is_between" = some (some (.ref f1))) (l1 : K.lookup f1 = some ⟨oc1, od1, .func (PySem.W.fnOf "is_between" "is_between" (defArgs s_is_between) (defBody s_is_between) (defScope s_is_between) .none kV1 dc1 pm1 an1 cd1 ct1), sl1⟩) (c1 : PySem.W.codeIn K cd1 "is_between" = true) (k1 : PySem.W.keepIn K (.ref f1) = true)
    (a2 : PySem.W.nsIn K mainGlobals "is_index" = some (some (.ref f2))) (l2 : K.lookup f2 = some ⟨oc2, od2, .func (PySem.W.fnOf "is_index" "is_index" (defArgs s_is_index) (defBody s_is_index) (defScope s_is_index) .none kV2 dc2 pm2 an2 cd2 ct2), sl2⟩) (c2 : PySem.W.codeIn K cd2 "is_index" = true) (k2 : PySem.W.keepIn K (.ref f2) = true)
    (a3 : PySem.W.nsIn K mainGlobals "check_number" = some (some (.ref f3))) (l3 : K.lookup f3 = some ⟨oc3, od3, .func (PySem.W.fnOf "check_number" "check_number" (defArgs s_check_number) (defBody s_check_number) (defScope s_check_number) .none kV3 dc3 pm3 an3 cd3 ct3), sl3⟩) (c3 : PySem.W.codeIn K cd3 "check_number" = true) (k3 : PySem.W.keepIn K (.ref f3) = true)
    (a4 : PySem.W.nsIn K mainGlobals "are_ascending" = some (some (.ref f4))) (l4 : K.lookup f4 = some ⟨oc4, od4, .func (PySem.W.fnOf "are_ascending" "are_ascending" (defArgs s_are_ascending) (defBody s_are_ascending) (defScope s_are_ascending) .none kV4 dc4 pm4 an4 cd4 ct4), sl4⟩) (c4 : PySem.W.codeIn K cd4 "are_ascending" = true) (k4 : PySem.W.keepIn K (.ref f4) = true)
    (a5 : PySem.W.nsIn K mainGlobals "is_pocket" = some (some (.ref f5))) (l5 : K.lookup f5 = some ⟨oc5, od5, .func (PySem.W.fnOf "is_pocket" "is_pocket" (defArgs s_is_pocket) (defBody s_is_pocket) (defScope s_is_pocket) .none kV5 dc5 pm5 an5 cd5 ct5), sl5⟩) (c5 : PySem.W.codeIn K cd5 "is_pocket" = true) (k5 : PySem.W.keepIn K (.ref f5) = true)
    (a6 : PySem.W.nsIn K mainGlobals "is_web" = some (some (.ref f6))) (l6 : K.lookup f6 = some ⟨oc6, od6, .func (PySem.W.fnOf "is_web" "is_web" (defArgs s_is_web) (defBody s_is_web) (defScope s_is_web) .none kV6 dc6 pm6 an6 cd6 ct6), sl6⟩) (c6 : PySem.W.codeIn K cd6 "is_web" = true) (k6 : PySem.W.keepIn K (.ref f6) = true)
    (a7 : PySem.W.nsIn K mainGlobals "check_web" = some (some (.ref f7))) (l7 : K.lookup f7 = some ⟨oc7, od7, .func (PySem.W.fnOf "check_web" "check_web" (defArgs s_check_web) (defBody s_check_web) (defScope s_check_web) .none kV7 dc7 pm7 an7 cd7 ct7), sl7⟩) (c7 : PySem.W.codeIn K cd7 "check_web" = true) (k7 : PySem.W.keepIn K (.ref f7) = true)
    (a8 : PySem.W.nsIn K mainGlobals "found_from" = some (some (.ref f8))) (l8 : K.lookup f8 = some ⟨oc8, od8, .func (PySem.W.fnOf "found_from" "found_from" (defArgs s_found_from) (defBody s_found_from) (defScope s_found_from) .none kV8 dc8 pm8 an8 cd8 ct8), sl8⟩) (c8 : PySem.W.codeIn K cd8 "found_from" = true) (k8 : PySem.W.keepIn K (.ref f8) = true)
    (a9 : PySem.W.nsIn K mainGlobals "raw_finds" = some (some (.ref f9))) (l9 : K.lookup f9 = some ⟨oc9, od9, .func (PySem.W.fnOf "raw_finds" "raw_finds" (defArgs s_raw_finds) (defBody s_raw_finds) (defScope s_raw_finds) .none kV9 dc9 pm9 an9 cd9 ct9), sl9⟩) (c9 : PySem.W.codeIn K cd9 "raw_finds" = true) (k9 : PySem.W.keepIn K (.ref f9) = true)
    (a10 : PySem.W.nsIn K mainGlobals "lots_up_to" = some (some (.ref f10))) (l10 : K.lookup f10 = some ⟨oc10, od10, .func (PySem.W.fnOf "lots_up_to" "lots_up_to" (defArgs s_lots_up_to) (defBody s_lots_up_to) (defScope s_lots_up_to) .none kV10 dc10 pm10 an10 cd10 ct10), sl10⟩) (c10 : PySem.W.codeIn K cd10 "lots_up_to" = true) (k10 : PySem.W.keepIn K (.ref f10) = true)
    (a11 : PySem.W.nsIn K mainGlobals "without_people" = some (some (.ref f11))) (l11 : K.lookup f11 = some ⟨oc11, od11, .func (PySem.W.fnOf "without_people" "without_people" (defArgs s_without_people) (defBody s_without_people) (defScope s_without_people) .none kV11 dc11 pm11 an11 cd11 ct11), sl11⟩) (c11 : PySem.W.codeIn K cd11 "without_people" = true) (k11 : PySem.W.keepIn K (.ref f11) = true)
    (a12 : PySem.W.nsIn K mainGlobals "hangs_together" = some (some (.ref f12))) (l12 : K.lookup f12 = some ⟨oc12, od12, .func (PySem.W.fnOf "hangs_together" "hangs_together" (defArgs s_hangs_together) (defBody s_hangs_together) (defScope s_hangs_together) .none kV12 dc12 pm12 an12 cd12 ct12), sl12⟩) (c12 : PySem.W.codeIn K cd12 "hangs_together" = true) (k12 : PySem.W.keepIn K (.ref f12) = true)
    (a13 : PySem.W.nsIn K mainGlobals "first_weak" = some (some (.ref f13))) (l13 : K.lookup f13 = some ⟨oc13, od13, .func (PySem.W.fnOf "first_weak" "first_weak" (defArgs s_first_weak) (defBody s_first_weak) (defScope s_first_weak) .none kV13 dc13 pm13 an13 cd13 ct13), sl13⟩) (c13 : PySem.W.codeIn K cd13 "first_weak" = true) (k13 : PySem.W.keepIn K (.ref f13) = true)
    (a14 : PySem.W.nsIn K mainGlobals "check_asked" = some (some (.ref f14))) (l14 : K.lookup f14 = some ⟨oc14, od14, .func (PySem.W.fnOf "check_asked" "check_asked" (defArgs s_check_asked) (defBody s_check_asked) (defScope s_check_asked) .none kV14 dc14 pm14 an14 cd14 ct14), sl14⟩) (c14 : PySem.W.codeIn K cd14 "check_asked" = true) (k14 : PySem.W.keepIn K (.ref f14) = true)
    (a15 : PySem.W.nsIn K mainGlobals "firm" = some (some (.ref f15))) (l15 : K.lookup f15 = some ⟨oc15, od15, .func (PySem.W.fnOf "firm" "firm" (defArgs s_firm) (defBody s_firm) (defScope s_firm) .none kV15 dc15 pm15 an15 cd15 ct15), sl15⟩) (c15 : PySem.W.codeIn K cd15 "firm" = true) (k15 : PySem.W.keepIn K (.ref f15) = true)
    (a16 : PySem.W.nsIn K mainGlobals "weak" = some (some (.ref f16))) (l16 : K.lookup f16 = some ⟨oc16, od16, .func (PySem.W.fnOf "weak" "weak" (defArgs s_weak) (defBody s_weak) (defScope s_weak) .none kV16 dc16 pm16 an16 cd16 ct16), sl16⟩) (c16 : PySem.W.codeIn K cd16 "weak" = true) (k16 : PySem.W.keepIn K (.ref f16) = true)
    (a17 : PySem.W.nsIn K mainGlobals "greatest_firm" = some (some (.ref f17))) (l17 : K.lookup f17 = some ⟨oc17, od17, .func (PySem.W.fnOf "greatest_firm" "greatest_firm" (defArgs s_greatest_firm) (defBody s_greatest_firm) (defScope s_greatest_firm) .none kV17 dc17 pm17 an17 cd17 ct17), sl17⟩) (c17 : PySem.W.codeIn K cd17 "greatest_firm" = true) (k17 : PySem.W.keepIn K (.ref f17) = true)
    (a18 : PySem.W.nsIn K mainGlobals "_law_hand" = some (some (.ref f18))) (l18 : K.lookup f18 = some ⟨oc18, od18, .func (PySem.W.fnOf "_law_hand" "_law_hand" (defArgs s__law_hand) (defBody s__law_hand) (defScope s__law_hand) .none kV18 dc18 pm18 an18 cd18 ct18), sl18⟩) (c18 : PySem.W.codeIn K cd18 "_law_hand" = true) (k18 : PySem.W.keepIn K (.ref f18) = true)
    (a19 : PySem.W.nsIn K mainGlobals "_law_draw" = some (some (.ref f19))) (l19 : K.lookup f19 = some ⟨oc19, od19, .func (PySem.W.fnOf "_law_draw" "_law_draw" (defArgs s__law_draw) (defBody s__law_draw) (defScope s__law_draw) .none kV19 dc19 pm19 an19 cd19 ct19), sl19⟩) (c19 : PySem.W.codeIn K cd19 "_law_draw" = true) (k19 : PySem.W.keepIn K (.ref f19) = true)
    (a20 : PySem.W.nsIn K mainGlobals "_law_some" = some (some (.ref f20))) (l20 : K.lookup f20 = some ⟨oc20, od20, .func (PySem.W.fnOf "_law_some" "_law_some" (defArgs s__law_some) (defBody s__law_some) (defScope s__law_some) .none kV20 dc20 pm20 an20 cd20 ct20), sl20⟩) (c20 : PySem.W.codeIn K cd20 "_law_some" = true) (k20 : PySem.W.keepIn K (.ref f20) = true)
    (a21 : PySem.W.nsIn K mainGlobals "_law_is" = some (some (.ref f21))) (l21 : K.lookup f21 = some ⟨oc21, od21, .func (PySem.W.fnOf "_law_is" "_law_is" (defArgs s__law_is) (defBody s__law_is) (defScope s__law_is) .none kV21 dc21 pm21 an21 cd21 ct21), sl21⟩) (c21 : PySem.W.codeIn K cd21 "_law_is" = true) (k21 : PySem.W.keepIn K (.ref f21) = true)
    (a22 : PySem.W.nsIn K mainGlobals "_law_flag" = some (some (.ref f22))) (l22 : K.lookup f22 = some ⟨oc22, od22, .func (PySem.W.fnOf "_law_flag" "_law_flag" (defArgs s__law_flag) (defBody s__law_flag) (defScope s__law_flag) .none kV22 dc22 pm22 an22 cd22 ct22), sl22⟩) (c22 : PySem.W.codeIn K cd22 "_law_flag" = true) (k22 : PySem.W.keepIn K (.ref f22) = true)
    (a23 : PySem.W.nsIn K mainGlobals "_law_web" = some (some (.ref f23))) (l23 : K.lookup f23 = some ⟨oc23, od23, .func (PySem.W.fnOf "_law_web" "_law_web" (defArgs s__law_web) (defBody s__law_web) (defScope s__law_web) .none kV23 dc23 pm23 an23 cd23 ct23), sl23⟩) (c23 : PySem.W.codeIn K cd23 "_law_web" = true) (k23 : PySem.W.keepIn K (.ref f23) = true)
    (a24 : PySem.W.nsIn K mainGlobals "_law_drawn_web" = some (some (.ref f24))) (l24 : K.lookup f24 = some ⟨oc24, od24, .func (PySem.W.fnOf "_law_drawn_web" "_law_drawn_web" (defArgs s__law_drawn_web) (defBody s__law_drawn_web) (defScope s__law_drawn_web) .none kV24 dc24 pm24 an24 cd24 ct24), sl24⟩) (c24 : PySem.W.codeIn K cd24 "_law_drawn_web" = true) (k24 : PySem.W.keepIn K (.ref f24) = true)
    (a25 : PySem.W.nsIn K mainGlobals "_law_reached" = some (some (.ref f25))) (l25 : K.lookup f25 = some ⟨oc25, od25, .func (PySem.W.fnOf "_law_reached" "_law_reached" (defArgs s__law_reached) (defBody s__law_reached) (defScope s__law_reached) .none kV25 dc25 pm25 an25 cd25 ct25), sl25⟩) (c25 : PySem.W.codeIn K cd25 "_law_reached" = true) (k25 : PySem.W.keepIn K (.ref f25) = true)
    (a26 : PySem.W.nsIn K mainGlobals "_law_holds" = some (some (.ref f26))) (l26 : K.lookup f26 = some ⟨oc26, od26, .func (PySem.W.fnOf "_law_holds" "_law_holds" (defArgs s__law_holds) (defBody s__law_holds) (defScope s__law_holds) .none kV26 dc26 pm26 an26 cd26 ct26), sl26⟩) (c26 : PySem.W.codeIn K cd26 "_law_holds" = true) (k26 : PySem.W.keepIn K (.ref f26) = true)
    (a27 : PySem.W.nsIn K mainGlobals "_law_lots" = some (some (.ref f27))) (l27 : K.lookup f27 = some ⟨oc27, od27, .func (PySem.W.fnOf "_law_lots" "_law_lots" (defArgs s__law_lots) (defBody s__law_lots) (defScope s__law_lots) .none kV27 dc27 pm27 an27 cd27 ct27), sl27⟩) (c27 : PySem.W.codeIn K cd27 "_law_lots" = true) (k27 : PySem.W.keepIn K (.ref f27) = true)
    (a28 : PySem.W.nsIn K mainGlobals "_law_weakest" = some (some (.ref f28))) (l28 : K.lookup f28 = some ⟨oc28, od28, .func (PySem.W.fnOf "_law_weakest" "_law_weakest" (defArgs s__law_weakest) (defBody s__law_weakest) (defScope s__law_weakest) .none kV28 dc28 pm28 an28 cd28 ct28), sl28⟩) (c28 : PySem.W.codeIn K cd28 "_law_weakest" = true) (k28 : PySem.W.keepIn K (.ref f28) = true)
    (a29 : PySem.W.nsIn K mainGlobals "law" = some (some (.ref f29))) (l29 : K.lookup f29 = some ⟨oc29, od29, .func (PySem.W.fnOf "law" "law" (defArgs s_law) (defBody s_law) (defScope s_law) .none kV29 dc29 pm29 an29 cd29 ct29), sl29⟩) (c29 : PySem.W.codeIn K cd29 "law" = true) (k29 : PySem.W.keepIn K (.ref f29) = true)
    (z_abs : PySem.W.nsIn K mainGlobals "abs" = some none)
    (z_all : PySem.W.nsIn K mainGlobals "all" = some none)
    (z_bool : PySem.W.nsIn K mainGlobals "bool" = some none)
    (z_dict : PySem.W.nsIn K mainGlobals "dict" = some none)
    (z_enumerate : PySem.W.nsIn K mainGlobals "enumerate" = some none)
    (z_int : PySem.W.nsIn K mainGlobals "int" = some none)
    (z_isinstance : PySem.W.nsIn K mainGlobals "isinstance" = some none)
    (z_len : PySem.W.nsIn K mainGlobals "len" = some none)
    (z_list : PySem.W.nsIn K mainGlobals "list" = some none)
    (z_min : PySem.W.nsIn K mainGlobals "min" = some none)
    (z_range : PySem.W.nsIn K mainGlobals "range" = some none)
    (z_sorted : PySem.W.nsIn K mainGlobals "sorted" = some none)
    (z_tuple : PySem.W.nsIn K mainGlobals "tuple" = some none)
    (z_zip : PySem.W.nsIn K mainGlobals "zip" = some none)
    (g_MOST_PEOPLE : PySem.W.nsIn K mainGlobals "MOST_PEOPLE" = some (some (.int 9 tk_MOST_PEOPLE)))
    (g_MOST_VANISHING : PySem.W.nsIn K mainGlobals "MOST_VANISHING" = some (some (.int 9 tk_MOST_VANISHING)))
    : ∃ fd : FuncData, (∀ (s : Shared) (v : Value), BindsTo s fd ⟨[v], []⟩ [("script", v)]) ∧ ∀ base : Heap, K.In base → base.Ns mainGlobals mg → FnOk l.prog w K mg base (L2.CX l.prog w) 10 fa fd ["script"] (spLaw K) := by
  have e := hfa.symm.trans (PySem.W.mg_of X G a29)
  cases e
  have T : Top K mg := ⟨at_mk X G a0 l0 c0 k0 (fun _ _ _ _ _ _ us hl => match us, hl with | [_], _ => rfl),
    at_mk X G a1 l1 c1 k1 (fun _ _ _ _ _ _ us hl => match us, hl with | [_, _, _], _ => rfl),
    at_mk X G a2 l2 c2 k2 (fun _ _ _ _ _ _ us hl => match us, hl with | [_, _], _ => rfl),
    at_mk X G a3 l3 c3 k3 (fun _ _ _ _ _ _ us hl => match us, hl with | [_, _, _], _ => rfl),
    at_mk X G a4 l4 c4 k4 (fun _ _ _ _ _ _ us hl => match us, hl with | [_], _ => rfl),
    at_mk X G a5 l5 c5 k5 (fun _ _ _ _ _ _ us hl => match us, hl with | [_, _, _], _ => rfl),
    at_mk X G a6 l6 c6 k6 (fun _ _ _ _ _ _ us hl => match us, hl with | [_], _ => rfl),
    at_mk X G a7 l7 c7 k7 (fun _ _ _ _ _ _ us hl => match us, hl with | [_], _ => rfl),
    at_mk X G a8 l8 c8 k8 (fun _ _ _ _ _ _ us hl => match us, hl with | [_, _], _ => rfl),
    at_mk X G a9 l9 c9 k9 (fun _ _ _ _ _ _ us hl => match us, hl with | [_], _ => rfl),
    at_mk X G a10 l10 c10 k10 (fun _ _ _ _ _ _ us hl => match us, hl with | [_, _], _ => rfl),
    at_mk X G a11 l11 c11 k11 (fun _ _ _ _ _ _ us hl => match us, hl with | [_, _], _ => rfl),
    at_mk X G a12 l12 c12 k12 (fun _ _ _ _ _ _ us hl => match us, hl with | [_, _], _ => rfl),
    at_mk X G a13 l13 c13 k13 (fun _ _ _ _ _ _ us hl => match us, hl with | [_, _], _ => rfl),
    at_mk X G a14 l14 c14 k14 (fun _ _ _ _ _ _ us hl => match us, hl with | [_, _], _ => rfl),
    at_mk X G a15 l15 c15 k15 (fun _ _ _ _ _ _ us hl => match us, hl with | [_, _], _ => rfl),
    at_mk X G a16 l16 c16 k16 (fun _ _ _ _ _ _ us hl => match us, hl with | [_, _], _ => rfl),
    at_mk X G a17 l17 c17 k17 (fun _ _ _ _ _ _ us hl => match us, hl with | [_], _ => rfl),
    at_mk X G a18 l18 c18 k18 (fun _ _ _ _ _ _ us hl => match us, hl with | [_], _ => rfl),
    at_mk X G a19 l19 c19 k19 (fun _ _ _ _ _ _ us hl => match us, hl with | [_, _], _ => rfl),
    at_mk X G a20 l20 c20 k20 (fun _ _ _ _ _ _ us hl => match us, hl with | [_, _], _ => rfl),
    at_mk X G a21 l21 c21 k21 (fun _ _ _ _ _ _ us hl => match us, hl with | [_, _], _ => rfl),
    at_mk X G a22 l22 c22 k22 (fun _ _ _ _ _ _ us hl => match us, hl with | [_, _], _ => rfl),
    at_mk X G a23 l23 c23 k23 (fun _ _ _ _ _ _ us hl => match us, hl with | [_, _, _], _ => rfl),
    at_mk X G a24 l24 c24 k24 (fun _ _ _ _ _ _ us hl => match us, hl with | [_, _], _ => rfl),
    at_mk X G a25 l25 c25 k25 (fun _ _ _ _ _ _ us hl => match us, hl with | [_, _, _], _ => rfl),
    at_mk X G a26 l26 c26 k26 (fun _ _ _ _ _ _ us hl => match us, hl with | [_, _], _ => rfl),
    at_mk X G a27 l27 c27 k27 (fun _ _ _ _ _ _ us hl => match us, hl with | [_], _ => rfl),
    at_mk X G a28 l28 c28 k28 (fun _ _ _ _ _ _ us hl => match us, hl with | [_], _ => rfl),
    at_mk X G a29 l29 c29 k29 (fun _ _ _ _ _ _ us hl => match us, hl with | [_], _ => rfl),
    PySem.W.mg_none_of X G z_abs,
    PySem.W.mg_none_of X G z_all,
    PySem.W.mg_none_of X G z_bool,
    PySem.W.mg_none_of X G z_dict,
    PySem.W.mg_none_of X G z_enumerate,
    PySem.W.mg_none_of X G z_int,
    PySem.W.mg_none_of X G z_isinstance,
    PySem.W.mg_none_of X G z_len,
    PySem.W.mg_none_of X G z_list,
    PySem.W.mg_none_of X G z_min,
    PySem.W.mg_none_of X G z_range,
    PySem.W.mg_none_of X G z_sorted,
    PySem.W.mg_none_of X G z_tuple,
    PySem.W.mg_none_of X G z_zip,
    ⟨_, PySem.W.mg_of X G g_MOST_PEOPLE⟩,
    ⟨_, PySem.W.mg_of X G g_MOST_VANISHING⟩⟩
  exact ⟨_, fun s v => .of_eq rfl, fun base _ _ => law_imp law_ok (fn_law T (fun_mk (st := s_law) l29 c29 k29))⟩
end K45
open PySem PySem.W PyProof.Rows
set_option maxHeartbeats 0 in
theorem PySem.Challenge.cw_stillfound_k45_whole_people_who_vanish_holds : PySem.Challenge.rw_stillfound_k45_whole_people_who_vanish.Holds := by
  w_on; o_law; k_head; (case hw => w_witness2)
  k_fill
  refine L2.walk_of (l := PySem.Challenge.rw_stillfound_k45_whole_people_who_vanish) (n := 63) (k := 10) (x := "script") (CX := fun w => L2.CX PySem.Challenge.rw_stillfound_k45_whole_people_who_vanish.prog w) (sp := fun w => Mi.spLaw _) rfl (by decide) rfl ⟨rfl, by decide, by decide⟩ (fun w h Y => PySem.W.kIn_of Y) ?F (fun _ _ a ns hl _ hS => ⟨a, ns, rfl, hS, fun _ => rfl⟩) (fun _ _ _ _ _ h => Mi.cx_false h)
  case F =>
    intro w mg fa h KX G hmg
    refine' K45.all_mk KX G hmg ?a0 ?l0 ?c0 ?k0 ?a1 ?l1 ?c1 ?k1 ?a2 ?l2 ?c2 ?k2 ?a3 ?l3 ?c3 ?k3 ?a4 ?l4 ?c4 ?k4 ?a5 ?l5 ?c5 ?k5 ?a6 ?l6 ?c6 ?k6 ?a7 ?l7 ?c7 ?k7 ?a8 ?l8 ?c8 ?k8 ?a9 ?l9 ?c9 ?k9 ?a10 ?l10 ?c10 ?k10 ?a11 ?l11 ?c11 ?k11 ?a12 ?l12 ?c12 ?k12 ?a13 ?l13 ?c13 ?k13 ?a14 ?l14 ?c14 ?k14 ?a15 ?l15 ?c15 ?k15 ?a16 ?l16 ?c16 ?k16 ?a17 ?l17 ?c17 ?k17 ?a18 ?l18 ?c18 ?k18 ?a19 ?l19 ?c19 ?k19 ?a20 ?l20 ?c20 ?k20 ?a21 ?l21 ?c21 ?k21 ?a22 ?l22 ?c22 ?k22 ?a23 ?l23 ?c23 ?k23 ?a24 ?l24 ?c24 ?k24 ?a25 ?l25 ?c25 ?k25 ?a26 ?l26 ?c26 ?k26 ?a27 ?l27 ?c27 ?k27 ?a28 ?l28 ?c28 ?k28 ?a29 ?l29 ?c29 ?k29 ?z_abs ?z_all ?z_bool ?z_dict ?z_enumerate ?z_int ?z_isinstance ?z_len ?z_list ?z_min ?z_range ?z_sorted ?z_tuple ?z_zip ?g_MOST_PEOPLE ?g_MOST_VANISHING
    (case a0 => k_is); (case l0 => k_is); (case c0 => k_is); (case k0 => k_is); (case a1 => k_is); (case l1 => k_is); (case c1 => k_is); (case k1 => k_is); (case a2 => k_is); (case l2 => k_is); (case c2 => k_is); (case k2 => k_is); (case a3 => k_is); (case l3 => k_is); (case c3 => k_is); (case k3 => k_is); (case a4 => k_is); (case l4 => k_is); (case c4 => k_is); (case k4 => k_is); (case a5 => k_is); (case l5 => k_is); (case c5 => k_is); (case k5 => k_is); (case a6 => k_is); (case l6 => k_is); (case c6 => k_is); (case k6 => k_is); (case a7 => k_is); (case l7 => k_is); (case c7 => k_is); (case k7 => k_is); (case a8 => k_is); (case l8 => k_is); (case c8 => k_is); (case k8 => k_is); (case a9 => k_is); (case l9 => k_is); (case c9 => k_is); (case k9 => k_is); (case a10 => k_is); (case l10 => k_is); (case c10 => k_is); (case k10 => k_is); (case a11 => k_is); (case l11 => k_is); (case c11 => k_is); (case k11 => k_is); (case a12 => k_is); (case l12 => k_is); (case c12 => k_is); (case k12 => k_is); (case a13 => k_is); (case l13 => k_is); (case c13 => k_is); (case k13 => k_is); (case a14 => k_is); (case l14 => k_is); (case c14 => k_is); (case k14 => k_is); (case a15 => k_is); (case l15 => k_is); (case c15 => k_is); (case k15 => k_is); (case a16 => k_is); (case l16 => k_is); (case c16 => k_is); (case k16 => k_is); (case a17 => k_is); (case l17 => k_is); (case c17 => k_is); (case k17 => k_is); (case a18 => k_is); (case l18 => k_is); (case c18 => k_is); (case k18 => k_is); (case a19 => k_is); (case l19 => k_is); (case c19 => k_is); (case k19 => k_is); (case a20 => k_is); (case l20 => k_is); (case c20 => k_is); (case k20 => k_is); (case a21 => k_is); (case l21 => k_is); (case c21 => k_is); (case k21 => k_is); (case a22 => k_is); (case l22 => k_is); (case c22 => k_is); (case k22 => k_is); (case a23 => k_is); (case l23 => k_is); (case c23 => k_is); (case k23 => k_is); (case a24 => k_is); (case l24 => k_is); (case c24 => k_is); (case k24 => k_is); (case a25 => k_is); (case l25 => k_is); (case c25 => k_is); (case k25 => k_is); (case a26 => k_is); (case l26 => k_is); (case c26 => k_is); (case k26 => k_is); (case a27 => k_is); (case l27 => k_is); (case c27 => k_is); (case k27 => k_is); (case a28 => k_is); (case l28 => k_is); (case c28 => k_is); (case k28 => k_is); (case a29 => k_is); (case l29 => k_is); (case c29 => k_is); (case k29 => k_is); (case z_abs => k_is); (case z_all => k_is); (case z_bool => k_is); (case z_dict => k_is); (case z_enumerate => k_is); (case z_int => k_is); (case z_isinstance => k_is); (case z_len => k_is); (case z_list => k_is); (case z_min => k_is); (case z_range => k_is); (case z_sorted => k_is); (case z_tuple => k_is); (case z_zip => k_is); (case g_MOST_PEOPLE => k_is); (case g_MOST_VANISHING => k_is)

