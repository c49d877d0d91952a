import PyProof.Rows.All
import Wide.All
import OpenK.AllK
import Wide.FinOn
import KE.DataCmp
import HandS.ForMost
import HandS.ForExc
import HandS.Flow
import HandS.Wide
import HandS.IsInst
import HandS.TupAny
import HandS.TupLe
import HandS.Style
import HandS.TupMul
import KE.DataEq
import KE.DataMinMax
import KE.DataAny
import KE.SortData
import HandS.SortKw
import PyProof.SumWalkG
import KE.KMathG
import HandS.TupLen
import HandS.WordsDict
import KE.KStar
import HandS.Text
import HandS.Zip
import HandS.Iter
import HandS.Comp
import KE.GoesMore
import KE.GoesEnum
import HandS.ExcOwn
import HandS.Defaults
import HandS.CallSlots
import HandS.WordsExc
import HandS.ExcInit
import HandS.ExcField
import KE.KStateDown
import HandS.Ends
import HandS.Head0
import HandS.Head1
import HandS.Head2
import HandS.HeadEnd
import HandS.HeadHook1
import HandS.HeadHook2
import PySem.Challenge.RW_sixturns_k28_partitions
set_option Elab.async false
set_option linter.all false
set_option maxRecDepth 100000
/-! MINI, part 1: values, the small syntax, the evaluator. Plain Lean; PySem's Str and PyData alone are used. -/
namespace Mini
open PySem (Str PyData)

/-- a value; lst, dct: a list, a dict that is never changed again; scr: the script; loc: a list or dict of the store -/
inductive D where
  | non | bl (b : Bool) | int (i : Int) | str (s : Str)
  | tup (xs : List D) | lst (xs : List D) | scr (xs : List D) | dct (ks vs : List D) | loc (l : Nat)
  deriving Inhabited
inductive Cell where
  | lst (xs : List D) | dct (ks vs : List D)
abbrev Store := List Cell
/-- a slot of a def's frame; own, ownD: a list, a dict that this name alone holds; exc: a caught error -/
inductive Slot where
  | no | val (d : D) | own (xs : List D) | ownD (ks vs : List D) | exc (c : Nat) (fs : List D)
abbrev Env := List Slot
inductive R (α : Type) where
  | ok (a : α) (S : Store) | err (c : Nat) (fs : List D) (S : Store) | bad
abbrev M (α : Type) := Store → R α
def ret {α : Type} (a : α) : M α := fun S => .ok a S
def bnd {α β : Type} (m : M α) (f : α → M β) : M β := fun S => match m S with
  | .ok a S' => f a S'
  | .err c fs S' => .err c fs S'
  | .bad => .bad
def bad {α : Type} : M α := fun _ => .bad
def lift {α : Type} : Option α → M α
  | some a => ret a
  | none => bad
/-- by the store, without a change -/
def look {α : Type} (f : Store → Option α) : M α := fun S => match f S with
  | some a => .ok a S
  | none => .bad

/-! ### the same, in a form that the kernel reckons quickly: the value is worked out before it goes on -/
def forceN {β : Type} (n : Nat) (k : Nat → β) : β := match n with
  | 0 => k 0
  | m + 1 => k (m + 1)
def forceI {β : Type} (i : Int) (k : Int → β) : β := match i with
  | .ofNat n => forceN n fun n => k (.ofNat n)
  | .negSucc n => forceN n fun n => k (.negSucc n)
theorem forceN_eq {β : Type} (n : Nat) (k : Nat → β) : forceN n k = k n := by cases n <;> rfl
theorem forceI_eq {β : Type} (i : Int) (k : Int → β) : forceI i k = k i := by
  cases i with
  | ofNat n => exact forceN_eq n fun n => k (.ofNat n)
  | negSucc n => exact forceN_eq n fun n => k (.negSucc n)
mutual
def forceD {β : Type} : D → (D → β) → β
  | .non, k => k .non
  | .bl b, k => (match b with
    | true => k (.bl true)
    | false => k (.bl false))
  | .int i, k => forceI i fun i => k (.int i)
  | .str s, k => k (.str s)
  | .tup xs, k => forceDs xs fun xs => k (.tup xs)
  | .lst xs, k => forceDs xs fun xs => k (.lst xs)
  | .scr xs, k => forceDs xs fun xs => k (.scr xs)
  | .dct ks vs, k => forceDs ks fun ks => forceDs vs fun vs => k (.dct ks vs)
  | .loc l, k => forceN l fun l => k (.loc l)
def forceDs {β : Type} : List D → (List D → β) → β
  | [], k => k []
  | d :: ds, k => forceD d fun d => forceDs ds fun ds => k (d :: ds)
end
mutual
theorem forceD_eq {β : Type} : ∀ (d : D) (k : D → β), forceD d k = k d
  | .non, _ => rfl
  | .bl b, k => by cases b <;> rfl
  | .int i, k => forceI_eq i fun i => k (.int i)
  | .str _, _ => rfl
  | .tup xs, k => forceDs_eq xs _
  | .lst xs, k => forceDs_eq xs _
  | .scr xs, k => forceDs_eq xs _
  | .dct ks vs, k => (forceDs_eq ks _).trans (forceDs_eq vs _)
  | .loc l, k => forceN_eq l fun l => k (.loc l)
theorem forceDs_eq {β : Type} : ∀ (ds : List D) (k : List D → β), forceDs ds k = k ds
  | [], _ => rfl
  | d :: ds, k => (forceD_eq d _).trans (forceDs_eq ds _)
end
/-- the spine of a list -/
def forceL {α β : Type} : List α → (List α → β) → β
  | [], k => k []
  | x :: xs, k => forceL xs fun xs => k (x :: xs)
theorem forceL_eq {α β : Type} : ∀ (xs : List α) (k : List α → β), forceL xs k = k xs
  | [], _ => rfl
  | x :: xs, k => forceL_eq xs _
def retD (d : D) : M D := fun S => forceD d fun d => .ok d S
def retL (ds : List D) : M (List D) := fun S => forceDs ds fun ds => .ok ds S
def retE {α : Type} (ρ : List α) : M (List α) := fun S => forceL ρ fun ρ => .ok ρ S
@[simp] theorem retD_eq (d : D) : retD d = ret d := by funext S; exact forceD_eq _ _
@[simp] theorem retL_eq (ds : List D) : retL ds = ret ds := by funext S; exact forceDs_eq _ _
@[simp] theorem retE_eq {α : Type} (ds : List α) : retE ds = ret ds := by funext S; exact forceL_eq _ _
def lookD (f : Store → Option D) : M D := fun S => match f S with
  | some d => forceD d fun d => .ok d S
  | none => .bad
def lookL (f : Store → Option (List D)) : M (List D) := fun S => match f S with
  | some d => forceDs d fun d => .ok d S
  | none => .bad
@[simp] theorem lookD_eq (f : Store → Option D) : lookD f = look f := by
  funext S
  unfold lookD look
  cases f S with
  | none => rfl
  | some d => exact forceD_eq _ _
@[simp] theorem lookL_eq (f : Store → Option (List D)) : lookL f = look f := by
  funext S
  unfold lookL look
  cases f S with
  | none => rfl
  | some d => exact forceDs_eq _ _

/-! ### what a value is -/
def line : Nat := 16777216
inductive Ty where
  | non | bool | int | str | list | tuple | dict
  deriving DecidableEq
def tyOf : D → Store → Option Ty
  | .non, _ => some .non
  | .bl _, _ => some .bool
  | .int _, _ => some .int
  | .str _, _ => some .str
  | .tup _, _ => some .tuple
  | .lst _, _ => some .list
  | .scr _, _ => some .list
  | .dct _ _, _ => some .dict
  | .loc l, S => match S[l]? with
    | some (.lst _) => some .list
    | some (.dct _ _) => some .dict
    | none => none
/-- isinstance: a bool is an int -/
def Ty.sub (a b : Ty) : Bool := decide (a = b) || (decide (a = .bool) && decide (b = .int))
/-- the items of a list, a tuple -/
def seqOf : D → Store → Option (List D)
  | .tup xs, _ => some xs
  | .lst xs, _ => some xs
  | .scr xs, _ => some xs
  | .loc l, S => match S[l]? with
    | some (.lst xs) => some xs
    | _ => none
  | _, _ => none
/-- the items of a list -/
def lstOf : D → Store → Option (List D)
  | .lst xs, _ => some xs
  | .loc l, S => match S[l]? with
    | some (.lst xs) => some xs
    | _ => none
  | _, _ => none
/-- the items of a list, the script too -/
def slcOf (d : D) (S : Store) : Option (List D) := match d with
  | .scr xs => some xs
  | _ => lstOf d S
def dctOf : D → Store → Option (List D × List D)
  | .dct ks vs, _ => some (ks, vs)
  | .loc l, S => match S[l]? with
    | some (.dct ks vs) => some (ks, vs)
    | _ => none
  | _, _ => none
/-- data without locs and dicts, as PyData -/
def pd : D → PyData
  | .non => .none
  | .bl b => .bool b
  | .int i => .int i
  | .str s => .str s
  | .tup xs => .tuple (xs.map pd)
  | .lst xs => .list (xs.map pd)
  | .scr _ => .none
  | .dct _ _ => .none
  | .loc _ => .none
/-- plain data, at most n deep -/
def plain : Nat → D → Bool
  | _, .non => true
  | _, .bl _ => true
  | _, .int _ => true
  | _, .str _ => true
  | n + 1, .tup xs => xs.all (plain n)
  | n + 1, .lst xs => xs.all (plain n)
  | _, _ => false
/-- a loc of a list read as the list -/
def rd (d : D) (S : Store) : D := match d with
  | .loc l => (match S[l]? with
    | some (.lst xs) => .lst xs
    | _ => d)
  | _ => d
def eqv (x y : D) : Option Bool := if plain 40 x && plain 40 y then some (PyData.eqv (pd x) (pd y)) else none
def eqD (x y : D) (S : Store) : Option Bool := eqv (rd x S) (rd y S)
def truth (d : D) (S : Store) : Option Bool := match d with
  | .non => some false
  | .bl b => some b
  | .int i => some (i != 0)
  | .str s => if s.length ≤ line then some ((s.length : Int) != 0) else none
  | _ => (seqOf d S).map fun xs => !xs.isEmpty
/-- is: None, True, False by value -/
def isD (x y : D) : Option Bool := match y with
  | .non => (match x with
    | .non => some true
    | _ => some false)
  | .bl b => (match x with
    | .bl a => some (decide (a = b))
    | _ => none)
  | _ => none

/-! ### operators -/
def addD (x y : D) (S : Store) : Option D := match x, y with
  | .int i, .int j => some (.int (i + j))
  | .str a, .str b => if a.length + b.length ≤ line then some (.str (a ++ b)) else none
  | .tup xs, .tup ys => if xs.length + ys.length ≤ line then some (.tup (xs ++ ys)) else none
  | _, _ => none
def subD (x y : D) (_ : Store) : Option D := match x, y with
  | .int i, .int j => some (.int (i - j))
  | _, _ => none
def mulOk (i j : Int) : Bool := decide (i.natAbs.log2 + j.natAbs.log2 < 1000000)
def repL {α : Type} (xs : List α) (n : Nat) : List α := (List.replicate n xs).flatten
def mulD (x y : D) (_ : Store) : Option D := match x, y with
  | .int i, .int j => if mulOk i j then some (.int (i * j)) else none
  | .tup xs, .int k => if -1000000000 < k ∧ k < 1000000000 ∧ xs.length * k.toNat ≤ line then some (.tup (repL xs k.toNat)) else none
  | _, _ => none
def divOk (j : Int) : Bool := decide (0 < j) && decide (j.natAbs.log2 < 9000)
def fdivD (x y : D) (_ : Store) : Option D := match x, y with
  | .int i, .int j => if divOk j then some (.int (i / j)) else none
  | _, _ => none
def modD (x y : D) (_ : Store) : Option D := match x, y with
  | .int i, .int j => if 0 < j then some (.int (i % j)) else none
  | _, _ => none
def powOk (i j : Int) : Bool := decide (0 ≤ j) && decide (j ≤ 1000000) && decide (i.natAbs < 2 ^ 64)
def powD (x y : D) (_ : Store) : Option D := match x, y with
  | .int i, .int j => if powOk i j then some (.int (i ^ j.toNat)) else none
  | _, _ => none
inductive Bop where
  | add | sub | mul | fdiv | mod | pow
def Bop.ev : Bop → D → D → Store → Option D
  | .add => addD
  | .sub => subD
  | .mul => mulD
  | .fdiv => fdivD
  | .mod => modD
  | .pow => powD
/-- order: of alike data -/
def ordOk (x y : D) : Bool := plain 40 x && plain 40 y && PySem.W.alike (pd x) (pd y) && (match x with
  | .non => false
  | _ => true)
def ltD (x y : D) : Option Bool := match x, y with
  | .int i, .int j => some (decide (i < j))
  | _, _ => if ordOk x y then some (PySem.W.dataLt (pd x) (pd y)) else none
def leD (x y : D) : Option Bool := match x, y with
  | .int i, .int j => some (decide (i ≤ j))
  | _, _ => if ordOk x y then some (!PySem.W.dataLt (pd y) (pd x)) else none
def gtD (x y : D) : Option Bool := match x, y with
  | .int i, .int j => some (decide (j < i))
  | _, _ => if ordOk x y then some (PySem.W.dataLt (pd y) (pd x)) else none
def geD (x y : D) : Option Bool := match x, y with
  | .int i, .int j => some (decide (j ≤ i))
  | _, _ => if ordOk x y then some (!PySem.W.dataLt (pd x) (pd y)) else none
inductive Cop where
  | eq | ne | lt | le | gt | ge | is | isnot | in_ | notin
/-- x in a list, a tuple -/
def inL (x : D) (ys : List D) : Option Bool := if plain 40 x && ys.all (plain 40) then some (ys.any fun y => PyData.eqv (pd y) (pd x)) else none
/-- keys of a dict: intsOf, texts, tuples of keys -/
def keyOk : Nat → D → Bool
  | _, .int _ => true
  | _, .str _ => true
  | n + 1, .tup xs => xs.all (keyOk n)
  | _, _ => false
def keyEq (x y : D) : Bool := PyData.eqv (pd x) (pd y)
def findK (k : D) : List D → List D → Option D
  | x :: xs, v :: vs => if keyEq x k then some v else findK k xs vs
  | _, _ => none
def putK (k v : D) : List D → List D → List D × List D
  | x :: xs, w :: vs => if keyEq x k then (x :: xs, v :: vs) else ((x :: (putK k v xs vs).1), (w :: (putK k v xs vs).2))
  | _, _ => ([k], [v])
def inD (x y : D) (S : Store) : Option Bool := match y with
  | .str b => (match x with
    | .str a => some (!(PySem.Builtin.Str.occurrences b a 0 b.length 1).isEmpty)
    | _ => none)
  | _ => (seqOf y S).bind fun ys => inL x ys
def Cop.ev (op : Cop) (x y : D) (S : Store) : Option Bool := match op with
  | .eq => eqD x y S
  | .ne => (eqD x y S).map not
  | .lt => ltD x y
  | .le => leD x y
  | .gt => gtD x y
  | .ge => geD x y
  | .is => isD x y
  | .isnot => (isD x y).map not
  | .in_ => inD x y S
  | .notin => (inD x y S).map not

/-! ### places -/
def ixN (n : Nat) (i : Int) : Option Nat := if 0 ≤ i then (if i < n then some i.toNat else none) else if -(n : Int) ≤ i then some (i + n).toNat else none
def atI {α : Type} (xs : List α) (i : Int) : Option α := (ixN xs.length i).bind fun j => xs[j]?
def sIx (n d : Nat) : Option Int → Nat
  | none => d
  | some v => if v < 0 then (v + (n : Int)).toNat else min v.toNat n
def cut {α : Type} (xs : List α) (lo hi : Option Int) : List α := (xs.drop (sIx xs.length 0 lo)).take (sIx xs.length xs.length hi - sIx xs.length 0 lo)
def ixD (x y : D) (S : Store) : Option D := match seqOf x S, y with
  | some xs, .int i => atI xs i
  | some _, _ => none
  | none, _ => match x, y with
    | .str z, .int i => if z.length ≤ line then (atI z.cps.toList i).map fun c => .str ⟨#[c]⟩ else none
    | _, _ => none
/-- a slice of a tuple, a text -/
def slcD (x : D) (lo hi : Option Int) (S : Store) : Option D := match x with
  | .tup xs => some (.tup (cut xs lo hi))
  | .str z => if z.length ≤ line then some (.str ⟨(cut z.cps.toList lo hi).toArray⟩) else none
  | _ => none

/-! ### built-in functions -/
def intsOf : List D → Option (List Int)
  | [] => some []
  | .int i :: r => (intsOf r).map fun l => i :: l
  | _ => none
def boolsOf : List D → Option (List Bool)
  | [] => some []
  | .bl i :: r => (boolsOf r).map fun l => i :: l
  | _ => none
def maxI : List Int → Option Int
  | [] => none
  | i :: r => some (r.foldl max i)
def minI : List Int → Option Int
  | [] => none
  | i :: r => some (r.foldl min i)
inductive Bi where
  | len | abs | int | str | sum | max | min | max2 | min2 | maxd | all | any | tuple | factorial
def Bi.ev (b : Bi) (as : List D) (S : Store) : Option D := match b, as with
  | .len, [.str z] => if z.length ≤ line then some (.int z.length) else none
  | .len, [d] => (match seqOf d S with
    | some xs => some (.int xs.length)
    | none => (match dctOf d S with
      | some (ks, _) => some (.int ks.length)
      | none => none))
  | .abs, [.int i] => some (.int (if i < 0 then -i else i))
  | .int, [.int i] => some (.int i)
  | .int, [.bl k] => some (.int (if k then 1 else 0))
  | .str, [.int i] => if i.natAbs.log2 < 1920 then some (.str (PySem.Str.ofString (toString i))) else none
  | .sum, [d] => (seqOf d S).bind fun xs => (intsOf xs).map fun l => .int l.sum
  | .max, [d] => (seqOf d S).bind fun xs => (intsOf xs).bind fun l => (maxI l).map .int
  | .min, [d] => (seqOf d S).bind fun xs => (intsOf xs).bind fun l => (minI l).map .int
  | .maxd, [d, .int z] => (seqOf d S).bind fun xs => (intsOf xs).map fun l => .int ((maxI l).getD z)
  | .max2, [.int i, .int j] => some (.int (if j > i then j else i))
  | .min2, [.int i, .int j] => some (.int (if j < i then j else i))
  | .all, [d] => (seqOf d S).bind fun xs => (boolsOf xs).map fun l => .bl (l.all id)
  | .any, [d] => (seqOf d S).bind fun xs => (boolsOf xs).map fun l => .bl (l.any id)
  | .tuple, [d] => (seqOf d S).map fun xs => .tup xs
  | .factorial, [.int i] => if 0 ≤ i ∧ i ≤ 20 then some (.int ((List.range i.toNat).foldl (fun (a : Int) (k : Nat) => a * ((k : Int) + 1)) 1)) else none
  | _, _ => none

/-! ### the syntax -/
/-- how a new list or dict becomes a value: for good, or a cell of the store -/
inductive Mode where
  | frz | cell
inductive Mt where
  | append | pop | popAt | extend | reverse | clear
mutual
inductive E where
  | var (i : Nat)
  | k (d : D)
  | glob (x : Str) (d : D)
  | tup (es : List E)
  | new (m : Mode) (f : F)
  | dct0
  | bin (op : Bop) (a b : E)
  | neg (a : E)
  | cmp (op : Cop) (a b : E)
  | chain (o1 o2 : Cop) (a b c : E)
  | and (es : List E)
  | or (es : List E)
  | not (a : E)
  | ite (c a b : E)
  | call (f : Nat) (es : List E)
  | callk (f : Nat) (es kes : List E) (ks : List Str) (perm : List Nat)
  | isi (e : E) (ts : List Ty)
  | bi (b : Bi) (es : List E)
  | mth (m : Mt) (o : E) (es : List E)
  | ix (a i : E)
  | slc (a : E) (lo hi : Option E)
  | exf (i : Nat) (f : Str)
  | star (a : E)
  | nope
inductive F where
  | disp (es : List E)
  | lc (own : List Nat) (elt : E) (t : T) (it : I) (ifs : List E) (gs : List G)
  | listOf (e : E)
  | cat (a b : E)
  | rep (a n : E)
  | slice (a : E) (lo hi : Option E)
  | ddisp (ks vs : List E)
inductive G where
  | mk (own : List Nat) (t : T) (it : I) (ifs : List E)
inductive I where
  | seq (e : E)
  | keys (e : E)
  | range1 (e : E)
  | range2 (a b : E)
  | enum (e : E)
  | zip (a b : E)
inductive T where
  | name (i : Nat)
  | tup (ts : List T)
end
/-- what an except clause does: return [w, n.f] (n in the slot i), a list of constants, a constant -/
inductive HC where
  | fld (m : Mode) (w f : Str) (i : Nat)
  | kl (m : Mode) (ds : List D)
  | k1 (d : D)
/-- except C: .. -/
structure Hd where
  c : Nat
  hc : HC
mutual
inductive S where
  | asg (t : T) (e : E)
  | own (i : Nat) (f : F)
  | mov (i j : Nat)
  | frz (i : Nat)
  | par (ts : List Nat) (ps : List P)
  | app (i : Nat) (e : E)
  | ext (i : Nat) (e : E)
  | setO (i : Nat) (ix e : E)
  | setC (o ix e : E)
  | ex (e : E)
  | ret (e : E)
  | retO (i : Nat) (m : Mode)
  | iff (c : E) (a b : List S)
  | for (t : T) (it : I) (b : List S)
  | forL (t : T) (e : E) (b : List S)
  | whl (c : E) (b : List S)
  | raise (c : Nat) (es : List E)
  | try (b : List S) (hs : List Hd)
  | brk
  | cnt
  | pass
  | nope
/-- one place of a swapped assignment -/
inductive P where
  | val (e : E)
  | own (f : F)
end
/-- what becomes of the cells that a call makes: they stay; they are let go; iso: the call runs in a store of its own, and what it hands back is never changed again (but for its outmost list, if that is to be a cell) -/
inductive Keep where
  | all | drop | iso (m : Mode)
/-- a def: its slots' number, its parameters' number, its body -/
structure Fn where
  slots : Nat
  pars : Nat
  body : List S
  keep : Keep := .all
/-- a class of errors: its number of fields; the errors that it catches -/
structure Cx where
  call : Nat → List D → M D
  exm : Nat → Nat → Option Bool
  fld : Nat → Option Str
  fuel : Nat

/-! ### the evaluator -/
def getV (ρ : Env) (i : Nat) : Option D := match ρ[i]? with
  | some (.val d) => some d
  | _ => none
def wipe (ρ : Env) : List Nat → Env
  | [] => ρ
  | v :: vs => (wipe ρ vs).set v .no
def flatMapM (f : D → M (List D)) : List D → M (List D)
  | [] => ret []
  | x :: xs => bnd (f x) fun a => bnd (flatMapM f xs) fun b => retE (a ++ b)
/-- an object that is new -/
inductive O where
  | l (xs : List D)
  | d (ks vs : List D)
def fits (o : O) : Bool := match o with
  | .l xs => decide (xs.length ≤ line)
  | .d ks vs => decide (ks.length ≤ line)
def place (m : Mode) (o : O) : M D := match m, o with
  | .frz, .l xs => ret (.lst xs)
  | .frz, .d _ _ => bad
  | .cell, .l xs => fun S => .ok (.loc S.length) (S ++ [.lst xs])
  | .cell, .d ks vs => fun S => .ok (.loc S.length) (S ++ [.dct ks vs])
mutual
def asgO : T → D → Env → Option Env
  | .name i, d, ρ => if i < ρ.length then some (ρ.set i (.val d)) else none
  | .tup ts, d, ρ => match d with
    | .tup xs => asgOs ts xs ρ
    | _ => none
def asgOs : List T → List D → Env → Option Env
  | [], ds, ρ => match ds with
    | [] => some ρ
    | _ => none
  | t :: ts, ds, ρ => match ds with
    | x :: xs => (asgO t x ρ).bind fun ρ' => asgOs ts xs ρ'
    | _ => none
end
mutual
def T.vars : T → List Nat
  | .name i => [i]
  | .tup ts => T.varss ts
def T.varss : List T → List Nat
  | [] => []
  | t :: ts => T.vars t ++ T.varss ts
end
def asgT (t : T) (d : D) (ρ : Env) : M Env := bnd (lift (asgO t d ρ)) retE
def perm {α : Type} (as : List α) : List Nat → Option (List α)
  | [] => some []
  | i :: r => match as[i]?, perm as r with
    | some a, some l => some (a :: l)
    | _, _ => none
def mtOn (m : Mt) (xs : List D) (as : List D) : Option (D × List D) := match m, as with
  | .append, [y] => if xs.length < line then some (.non, xs ++ [y]) else none
  | .pop, [] => (xs[xs.length - 1]?).map fun y => (y, xs.dropLast)
  | .popAt, [.int i] => if -(2 ^ 62) ≤ i ∧ i < 2 ^ 62 then (ixN xs.length i).bind fun j => (xs[j]?).map fun y => (y, xs.eraseIdx j) else none
  | .reverse, [] => some (.non, xs.reverse)
  | .clear, [] => some (.non, [])
  | _, _ => none
def mthD (m : Mt) (o : D) (as : List D) : M D := match o with
  | .loc l => fun S => match S[l]? with
    | some (.lst xs) => (match m, as with
      | .extend, [d] => (match lstOf d S with
        | some ys => if xs.length + ys.length ≤ line then .ok .non (S.set l (.lst (xs ++ ys))) else .bad
        | none => .bad)
      | _, _ => (match mtOn m xs as with
        | some (d, xs') => .ok d (S.set l (.lst xs'))
        | none => .bad))
    | _ => .bad
  | _ => bad
def rangeOk (i : Int) : Bool := Nat.blt i.natAbs 4611686018427387904
def rangeL (a b : Int) : List D := (List.range (b - a).toNat).map fun k => D.int (a + (k : Nat))
def asInt : D → Option Int
  | .int i => some i
  | _ => none
def strItems (z : Str) : List D := z.cps.toList.map fun c => .str ⟨#[c]⟩
/-- the items of what never changes -/
def frzOf : D → Option (List D)
  | .tup xs => some xs
  | .lst xs => some xs
  | .scr xs => some xs
  | .str z => if z.length ≤ line then some (strItems z) else none
  | .dct ks _ => some ks
  | _ => none
/-- an error is none that is looked for -/
def noerr {α : Type} (m : M α) : M α := fun S => match m S with
  | .err _ _ _ => .bad
  | r => r
def itemsOf (d : D) (S : Store) : Option (List D) := match d with
  | .str z => some (strItems z)
  | _ => seqOf d S
mutual
def ev (cx : Cx) : E → Env → M D
  | .var i, ρ => lift (getV ρ i)
  | .k d, _ => ret d
  | .glob _ d, _ => ret d
  | .tup es, ρ => bnd (evs cx es ρ) fun ds => if ds.length ≤ line then ret (.tup ds) else bad
  | .new m f, ρ => bnd (evF cx f ρ) fun o => place m o
  | .dct0, _ => ret (.dct [] [])
  | .bin op a b, ρ => bnd (ev cx a ρ) fun x => bnd (ev cx b ρ) fun y => lookD (op.ev x y)
  | .neg a, ρ => bnd (ev cx a ρ) fun x => match x with
    | .int i => retD (.int (-i))
    | _ => bad
  | .cmp op a b, ρ => bnd (ev cx a ρ) fun x => bnd (ev cx b ρ) fun y => bnd (look (op.ev x y)) fun k => retD (.bl k)
  | .chain o1 o2 a b c, ρ => bnd (ev cx a ρ) fun x => bnd (ev cx b ρ) fun y => bnd (look (o1.ev x y)) fun k =>
    if k then bnd (ev cx c ρ) fun z => bnd (look (o2.ev y z)) fun k2 => retD (.bl k2) else ret (.bl false)
  | .and es, ρ => evAnd cx es ρ
  | .or es, ρ => evOr cx es ρ
  | .not a, ρ => bnd (ev cx a ρ) fun x => bnd (look (truth x)) fun k => retD (.bl (!k))
  | .ite c a b, ρ => bnd (ev cx c ρ) fun x => bnd (look (truth x)) fun k => if k then ev cx a ρ else ev cx b ρ
  | .call f es, ρ => bnd (evs cx es ρ) fun ds => cx.call f ds
  | .callk f es kes ks p, ρ => bnd (evs cx es ρ) fun ds => bnd (evs cx kes ρ) fun zs => if ds.length = es.length ∧ zs.length = ks.length then bnd (lift (perm (ds ++ zs) p)) fun as => cx.call f as else bad
  | .isi e ts, ρ => bnd (ev cx e ρ) fun x => bnd (look (tyOf x)) fun t => retD (.bl (ts.any fun u => t.sub u))
  | .bi b es, ρ => bnd (evs cx es ρ) fun ds => lookD (b.ev ds)
  | .mth m o es, ρ => bnd (ev cx o ρ) fun x => bnd (look (lstOf x)) fun _ => bnd (evs cx es ρ) fun ds => mthD m x ds
  | .ix a i, ρ => bnd (ev cx a ρ) fun x => bnd (ev cx i ρ) fun y => look (ixD x y)
  | .slc a lo hi, ρ => bnd (ev cx a ρ) fun x => bnd (evo cx lo ρ) fun l => bnd (evo cx hi ρ) fun h => lookD (slcD x l h)
  | .exf i f, ρ => match ρ[i]? with
    | some (.exc _ [d]) => ret d
    | _ => bad
  | .star _, _ => bad
  | .nope, _ => bad
def evs (cx : Cx) : List E → Env → M (List D)
  | [], _ => ret []
  | .star a :: es, ρ => bnd (ev cx a ρ) fun x => bnd (look (seqOf x)) fun xs => bnd (evs cx es ρ) fun ys => ret (xs ++ ys)
  | e :: es, ρ => bnd (ev cx e ρ) fun x => bnd (evs cx es ρ) fun xs => ret (x :: xs)
def evo (cx : Cx) : Option E → Env → M (Option Int)
  | none, _ => ret none
  | some e, ρ => bnd (ev cx e ρ) fun x => bnd (lift (asInt x)) fun i => ret (some i)
/-- values by truth -/
def evAnd (cx : Cx) : List E → Env → M D
  | [], _ => bad
  | [e], ρ => ev cx e ρ
  | e :: es, ρ => bnd (ev cx e ρ) fun x => bnd (look (truth x)) fun k => if k then evAnd cx es ρ else ret x
def evOr (cx : Cx) : List E → Env → M D
  | [], _ => bad
  | [e], ρ => ev cx e ρ
  | e :: es, ρ => bnd (ev cx e ρ) fun x => bnd (look (truth x)) fun k => if k then ret x else evOr cx es ρ
/-- the tests of a comprehension -/
def evIfs (cx : Cx) : List E → Env → M Bool
  | [], _ => ret true
  | e :: es, ρ => bnd (ev cx e ρ) fun x => bnd (look (truth x)) fun k => if k then evIfs cx es ρ else ret false
def evF (cx : Cx) : F → Env → M O
  | .disp es, ρ => bnd (evs cx es ρ) fun ds => if ds.length ≤ line then ret (.l ds) else bad
  | .lc own elt t it ifs gs, ρ => bnd (evI cx it ρ) fun xs => bnd (noerr (flatMapM (fun x => bnd (asgT t x (wipe ρ own)) fun ρ' => bnd (evIfs cx ifs ρ') fun k =>
      if k then evG cx gs (fun ρ2 => bnd (ev cx elt ρ2) fun d => ret [d]) ρ' else ret []) xs)) fun ds => if ds.length ≤ line then ret (.l ds) else bad
  | .listOf e, ρ => bnd (ev cx e ρ) fun x => bnd (look (seqOf x)) fun xs => bnd (retE xs) fun xs => ret (.l xs)
  | .cat a b, ρ => bnd (ev cx a ρ) fun x => bnd (ev cx b ρ) fun y => bnd (look (lstOf x)) fun xs => bnd (look (lstOf y)) fun ys => if xs.length + ys.length ≤ line then bnd (retE (xs ++ ys)) fun zs => ret (.l zs) else bad
  | .rep a n, ρ => bnd (ev cx a ρ) fun x => bnd (ev cx n ρ) fun y => bnd (look (lstOf x)) fun xs => bnd (lift (asInt y)) fun k =>
      if -1000000000 < k ∧ k < 1000000000 ∧ xs.length * k.toNat ≤ line then bnd (retE (repL xs k.toNat)) fun zs => ret (.l zs) else bad
  | .slice a lo hi, ρ => bnd (ev cx a ρ) fun x => bnd (evo cx lo ρ) fun l => bnd (evo cx hi ρ) fun h => bnd (look (slcOf x)) fun xs => bnd (retE (cut xs l h)) fun zs => ret (.l zs)
  | .ddisp ks vs, ρ => match ks, vs with
    | [], [] => ret (.d [] [])
    | _, _ => bad
def evG (cx : Cx) : List G → (Env → M (List D)) → Env → M (List D)
  | [], elt, ρ => elt ρ
  | .mk own t it ifs :: gs, elt, ρ => bnd (evI cx it ρ) fun xs => flatMapM (fun x => bnd (asgT t x (wipe ρ own)) fun ρ' => bnd (evIfs cx ifs ρ') fun k => if k then evG cx gs elt ρ' else ret []) xs
def evI (cx : Cx) : I → Env → M (List D)
  | .seq e, ρ => bnd (ev cx e ρ) fun x => bnd (lift (frzOf x)) fun xs => ret xs
  | .keys _, _ => bad
  | .range1 e, ρ => bnd (ev cx e ρ) fun x => bnd (lift (asInt x)) fun j => if rangeOk j then retL (rangeL 0 j) else bad
  | .range2 a b, ρ => bnd (ev cx a ρ) fun x => bnd (ev cx b ρ) fun y => bnd (lift (asInt x)) fun i => bnd (lift (asInt y)) fun j => if rangeOk i && rangeOk j then retL (rangeL i j) else bad
  | .enum e, ρ => bnd (ev cx e ρ) fun x => bnd (lift (match x with
    | .str _ => none
    | .dct _ _ => none
    | d => frzOf d)) fun xs => ret (((List.range xs.length).zip xs).map fun p => D.tup [.int (p.1 : Nat), p.2])
  | .zip a b, ρ => bnd (ev cx a ρ) fun x => bnd (ev cx b ρ) fun y => bnd (look (seqOf x)) fun xs => bnd (look (seqOf y)) fun ys => retL ((xs.zip ys).map fun p => D.tup [p.1, p.2])
end

/-! ### statements -/
inductive Fl where
  | nx (ρ : Env) | rt (d : D) | bk (ρ : Env) | ct (ρ : Env)
def forM (b : D → Env → M Fl) : List D → Env → M Fl
  | [], ρ => ret (.nx ρ)
  | x :: xs, ρ => bnd (b x ρ) fun f => match f with
    | .nx ρ' => forM b xs ρ'
    | .ct ρ' => forM b xs ρ'
    | .bk ρ' => ret (.nx ρ')
    | .rt d => ret (.rt d)
/-- the list at l, as it stands at each turn -/
def liveM (b : D → Env → M Fl) (l : Nat) : Nat → Nat → Env → M Fl
  | 0, _, _ => bad
  | n + 1, i, ρ => bnd (look fun S => match S[l]? with
      | some (.lst xs) => some xs[i]?
      | _ => none) fun o => match o with
    | none => ret (.nx ρ)
    | some x => bnd (b x ρ) fun f => match f with
      | .nx ρ' => liveM b l n (i + 1) ρ'
      | .ct ρ' => liveM b l n (i + 1) ρ'
      | .bk ρ' => ret (.nx ρ')
      | .rt d => ret (.rt d)
def whlM (c : Env → M Bool) (b : Env → M Fl) : Nat → Env → M Fl
  | 0, _ => bad
  | n + 1, ρ => bnd (c ρ) fun k => if k then bnd (b ρ) fun f => (match f with
      | .nx ρ' => whlM c b n ρ'
      | .ct ρ' => whlM c b n ρ'
      | .bk ρ' => ret (.nx ρ')
      | .rt d => ret (.rt d)) else ret (.nx ρ)
def slotOf (o : O) : Slot := match o with
  | .l xs => .own xs
  | .d ks vs => .ownD ks vs
def frzS : Slot → Slot
  | .own xs => .val (.lst xs)
  | .ownD ks vs => .val (.dct ks vs)
  | s => s
def setAt (ρ : Env) (i : Nat) (s : Slot) : M Env := if i < ρ.length then retE (ρ.set i s) else bad
def setAll : Env → List Nat → List Slot → M Env
  | ρ, [], [] => ret ρ
  | ρ, i :: is, s :: ss => bnd (setAt ρ i s) fun ρ' => setAll ρ' is ss
  | _, _, _ => bad
/-- d[k] = v of an owned list, an owned dict -/
def setOwn (s : Slot) (k v : D) : Option Slot := match s with
  | .own xs => (match k with
    | .int i => (ixN xs.length i).map fun j => .own (xs.set j v)
    | _ => none)
  | .ownD ks vs => if keyOk 8 k && decide (ks.length < line) then some (.ownD (putK k v ks vs).1 (putK k v ks vs).2) else none
  | _ => none
def setCell (c : Cell) (k v : D) : Option Cell := match c with
  | .lst xs => (match k with
    | .int i => (ixN xs.length i).map fun j => .lst (xs.set j v)
    | _ => none)
  | .dct _ _ => none
def hcM (cx : Cx) (n : Nat) : HC → Nat → List D → M Fl
  | .fld m w f i, c, fs => match fs with
    | [d] => if cx.fld c = some f ∧ i < n then bnd (place m (.l [.str w, d])) fun x => ret (.rt x) else bad
    | _ => bad
  | .kl m ds, _, _ => if ds.length ≤ line then bnd (place m (.l ds)) fun x => ret (.rt x) else bad
  | .k1 d, _, _ => ret (.rt d)
/-- the clauses, for an error of the class c with the fields fs -/
def exH (cx : Cx) (n : Nat) : List Hd → Nat → List D → M Fl
  | [], c, fs => fun S => .err c fs S
  | h :: hs, c, fs => bnd (lift (cx.exm c h.c)) fun t => if t then hcM cx n h.hc c fs else exH cx n hs c fs
mutual
def exS (cx : Cx) : S → Env → M Fl
  | .asg t e, ρ => bnd (ev cx e ρ) fun d => bnd (asgT t d ρ) fun ρ' => ret (.nx ρ')
  | .own i f, ρ => bnd (evF cx f ρ) fun o => bnd (setAt ρ i (slotOf o)) fun ρ' => ret (.nx ρ')
  | .mov i j, ρ => (match ρ[j]? with
    | some (.own xs) => bnd (setAt (ρ.set j .no) i (.own xs)) fun ρ' => ret (.nx ρ')
    | some (.ownD ks vs) => bnd (setAt (ρ.set j .no) i (.ownD ks vs)) fun ρ' => ret (.nx ρ')
    | _ => bad)
  | .frz i, ρ => (match ρ[i]? with
    | some s => ret (.nx (ρ.set i (frzS s)))
    | none => bad)
  | .par ts ps, ρ => bnd (evP cx ps ρ) fun ss => bnd (setAll ρ ts ss) fun ρ' => ret (.nx ρ')
  | .app i e, ρ => (match ρ[i]? with
    | some (.own xs) => bnd (ev cx e ρ) fun d => if xs.length < line then bnd (retE (xs ++ [d])) fun zs => bnd (retE (ρ.set i (.own zs))) fun ρ' => ret (.nx ρ') else bad
    | _ => bad)
  | .ext i e, ρ => (match ρ[i]? with
    | some (.own xs) => bnd (ev cx e ρ) fun d => bnd (look (lstOf d)) fun ys => if xs.length + ys.length ≤ line then bnd (retE (xs ++ ys)) fun zs => bnd (retE (ρ.set i (.own zs))) fun ρ' => ret (.nx ρ') else bad
    | _ => bad)
  | .setO i ix e, ρ => bnd (ev cx e ρ) fun d => (match ρ[i]? with
    | some (.own xs) => bnd (ev cx ix ρ) fun k => bnd (lift (setOwn (.own xs) k d)) fun s' => ret (.nx (ρ.set i s'))
    | some (.ownD ks vs) => bnd (ev cx ix ρ) fun k => bnd (lift (setOwn (.ownD ks vs) k d)) fun s' => ret (.nx (ρ.set i s'))
    | _ => bad)
  | .setC o ix e, ρ => bnd (ev cx e ρ) fun d => bnd (ev cx o ρ) fun x => bnd (ev cx ix ρ) fun k => (match x with
    | .loc l => fun S => match S[l]? with
      | some c => (match setCell c k d with
        | some c' => .ok (.nx ρ) (S.set l c')
        | none => .bad)
      | none => .bad
    | _ => bad)
  | .ex e, ρ => bnd (ev cx e ρ) fun _ => ret (.nx ρ)
  | .ret e, ρ => bnd (ev cx e ρ) fun d => ret (.rt d)
  | .retO i m, ρ => (match ρ[i]? with
    | some (.own xs) => bnd (place m (.l xs)) fun d => ret (.rt d)
    | some (.ownD ks vs) => bnd (place m (.d ks vs)) fun d => ret (.rt d)
    | _ => bad)
  | .iff c a b, ρ => bnd (ev cx c ρ) fun x => bnd (look (truth x)) fun k => if k then exSs cx a ρ else exSs cx b ρ
  | .for t it b, ρ => bnd (evI cx it ρ) fun xs => forM (fun x ρ' => bnd (asgT t x ρ') fun ρ2 => exSs cx b ρ2) xs ρ
  | .forL t e b, ρ => bnd (ev cx e ρ) fun d => (match d with
    | .loc l => liveM (fun x ρ' => bnd (asgT t x ρ') fun ρ2 => exSs cx b ρ2) l cx.fuel 0 ρ
    | _ => bad)
  | .whl c b, ρ => whlM (fun ρ' => bnd (ev cx c ρ') fun x => look (truth x)) (fun ρ' => exSs cx b ρ') cx.fuel ρ
  | .raise c es, ρ => bnd (evs cx es ρ) fun ds => fun S => .err c ds S
  | .try b hs, ρ => fun St => match exSs cx b ρ St with
    | .err c fs S' => exH cx ρ.length hs c fs S'
    | r => r
  | .brk, ρ => ret (.bk ρ)
  | .cnt, ρ => ret (.ct ρ)
  | .pass, ρ => ret (.nx ρ)
  | .nope, _ => bad
def exSs (cx : Cx) : List S → Env → M Fl
  | [], ρ => ret (.nx ρ)
  | s :: ss, ρ => bnd (exS cx s ρ) fun f => match f with
    | .nx ρ' => exSs cx ss ρ'
    | f => ret f
def evP (cx : Cx) : List P → Env → M (List Slot)
  | [], _ => ret []
  | .val e :: ps, ρ => bnd (ev cx e ρ) fun d => bnd (evP cx ps ρ) fun ss => ret (.val d :: ss)
  | .own f :: ps, ρ => bnd (evF cx f ρ) fun o => bnd (evP cx ps ρ) fun ss => ret (slotOf o :: ss)
end
/-! ### a program -/
/-! no loc from n on -/
mutual
def below (n : Nat) : D → Bool
  | .loc l => decide (l < n)
  | .tup xs => belows n xs
  | .lst xs => belows n xs
  | .scr xs => belows n xs
  | .dct ks vs => belows n ks && belows n vs
  | _ => true
def belows (n : Nat) : List D → Bool
  | [] => true
  | d :: ds => below n d && belows n ds
end
def belowC (n : Nat) : Cell → Bool
  | .lst xs => belows n xs
  | .dct ks vs => belows n ks && belows n vs
structure Prog where
  fn : Nat → Option Fn
  exm : Nat → Nat → Option Bool
  fld : Nat → Option Str
  fuel : Nat := 1000000000000
def start (f : Fn) (as : List D) : Env := as.map Slot.val ++ List.replicate (f.slots - as.length) Slot.no
def outOf : Fl → M D
  | .rt d => ret d
  | .nx _ => ret .non
  | _ => bad
def mapO {α β : Type} (f : α → Option β) : List α → Option (List β)
  | [] => some []
  | x :: xs => match f x, mapO f xs with
    | some y, some ys => some (y :: ys)
    | _, _ => none
/-- the cells of S read for good; ex: a cell that is not to be met -/
def frzD (S : Store) (ex : Nat) : Nat → D → Option D
  | 0, _ => none
  | n + 1, d => match d with
    | .tup xs => (mapO (frzD S ex n) xs).map .tup
    | .lst xs => (mapO (frzD S ex n) xs).map .lst
    | .scr xs => if belows 0 xs then some (.scr xs) else none
    | .dct ks vs => if belows 0 ks then (mapO (frzD S ex n) vs).map (.dct ks) else none
    | .loc l => if l = ex then none else (match S[l]? with
      | some (.lst xs) => (mapO (frzD S ex n) xs).map .lst
      | _ => none)
    | d => some d
def isoEnd (m : Mode) (d : D) (S' S : Store) : R D := match m, d with
  | .cell, .loc l => (match S'[l]? with
    | some (.lst xs) => (match mapO (frzD S' l 20) xs with
      | some ys => .ok (.loc S.length) (S ++ [.lst ys])
      | none => .bad)
    | _ => .bad)
  | _, d => (match frzD S' S'.length 20 d with
    | some d' => forceD d' fun d' => .ok d' S
    | none => .bad)
/-- a call in a store of its own -/
def isoM (m : Mode) (b : M D) : M D := fun S => match b [] with
  | .ok d S' => isoEnd m d S' S
  | .err c fs _ => if belows 0 fs then .err c fs S else .bad
  | .bad => .bad
/-- what a call leaves of the store -/
def drop (n : Nat) (d : D) : M D := fun S => if below n d && (S.take n).all (belowC n) then .ok d (S.take n) else .bad
def run (P : Prog) : Nat → Nat → List D → M D
  | 0, _, _ => bad
  | k + 1, f, as => match P.fn f with
    | some fn => if as.length = fn.pars then
        (match fn.keep with
      | .all => bnd (exSs ⟨run P k, P.exm, P.fld, P.fuel⟩ fn.body (start fn as)) outOf
      | .drop => (fun S => bnd (exSs ⟨run P k, P.exm, P.fld, P.fuel⟩ fn.body (start fn as)) (fun fl => bnd (outOf fl) fun d => drop S.length d) S)
      | .iso m => if belows 0 as then isoM m (bnd (exSs ⟨run P k, P.exm, P.fld, P.fuel⟩ fn.body (start fn as)) outOf) else bnd (exSs ⟨run P k, P.exm, P.fld, P.fuel⟩ fn.body (start fn as)) outOf)
      else bad
    | none => bad
end Mini

set_option maxHeartbeats 4000000
/-! MINI, part 2: how the values of MINI stand in HandS' abstract heap. -/
namespace Mini
open PySem PySem.Spec PyProof.Rows L2
abbrev Frag := PySem.W.Frag
abbrev St := L2.St

/-- frozen: lists and dicts that are never changed again; cells: where the store's cells stand -/
structure Gh where
  F : Addr → Prop
  μ : List Addr
/-- what may stand at a cell -/
def MutO : HO → Prop
  | .lst _ => True
  | .dK _ => True
  | .dT _ => True
  | _ => False
def keyD : Key → D
  | .inl i => .int i
  | .inr s => .str s
/-- a dict's keys, its values -/
def DicOf (o : HO) (ks : List D) (xs : List V) : Prop :=
  (∃ kvs : List (Key × V), o = .dK kvs ∧ ks = kvs.map (fun p => keyD p.1) ∧ xs = kvs.map (·.2)) ∨
  (∃ kvs : List (List Key × V), o = .dT kvs ∧ ks = kvs.map (fun p => D.tup (p.1.map keyD)) ∧ xs = kvs.map (·.2))
/-- a list of the written part -/
def KList (K : Frag) (a : Addr) (xs : List V) : Prop :=
  ∃ (its : Array Value) (n : Nat), K.lookup a = some { cls := .type "list", data := .seq its n } ∧ its.size ≤ sizeLine ∧ Vals xs its.toList
/-- a list whose object is that of a list alone -/
def ExL (K : Frag) (H : Hp) (a : Addr) (xs : List V) : Prop := Rd H a (.lst xs) ∨ KList K a xs
theorem ExL.sq {K : Frag} {H : Hp} {a : Addr} {xs : List V} (h : ExL K H a xs) : SqL K H a xs := by
  rcases h with h | ⟨its, n, h, z, r⟩
  · exact .inl h
  · exact .inr ⟨_, its, n, h, rfl, rfl, rfl, z, r⟩
/-- the script -/
def ScL (K : Frag) (H : Hp) (g : Gh) (a : Addr) (xs : List V) : Prop := (Rd H a (.lst xs) ∧ g.F a) ∨ SqL K (fun _ => none) a xs
mutual
def Rep (K : Frag) (H : Hp) (g : Gh) : V → D → Prop
  | v, .non => v = .non
  | v, .bl b => v = .bl b
  | v, .int i => v = .int i
  | v, .str s => v = .str s
  | v, .tup ds => ∃ a xs, v = .ref a ∧ SqT K H a xs ∧ Reps K H g xs ds
  | v, .lst ds => ∃ a xs, v = .ref a ∧ ((Rd H a (.lst xs) ∧ g.F a) ∨ KList K a xs) ∧ Reps K H g xs ds
  | v, .scr ds => ∃ a xs, v = .ref a ∧ ScL K H g a xs ∧ Reps K H g xs ds
  | v, .dct ks ds => ∃ a ob o xs, v = .ref a ∧ H a = some (.frz ob o) ∧ g.F a ∧ DicOf o ks xs ∧ Reps K H g xs ds
  | v, .loc l => ∃ a, v = .ref a ∧ g.μ[l]? = some a
def Reps (K : Frag) (H : Hp) (g : Gh) : List V → List D → Prop
  | vs, [] => vs = []
  | vs, d :: ds => ∃ v r, vs = v :: r ∧ Rep K H g v d ∧ Reps K H g r ds
end
section
variable {K : Frag} {H H' : Hp} {g g' : Gh}
theorem reps_nil : Reps K H g [] [] := by rw [Reps]
theorem reps_cons {v : V} {d : D} {vs : List V} {ds : List D} (h : Rep K H g v d) (hs : Reps K H g vs ds) : Reps K H g (v :: vs) (d :: ds) := by
  rw [Reps]; exact ⟨v, vs, rfl, h, hs⟩
theorem Reps.inv {v : V} {d : D} {vs : List V} {ds : List D} (h : Reps K H g (v :: vs) (d :: ds)) : Rep K H g v d ∧ Reps K H g vs ds := by
  rw [Reps] at h
  obtain ⟨v', r, e, h1, h2⟩ := h
  cases e
  exact ⟨h1, h2⟩
theorem Reps.nil_inv {ds : List D} (h : Reps K H g [] ds) : ds = [] := by
  cases ds with
  | nil => rfl
  | cons d ds =>
    rw [Reps] at h
    obtain ⟨v, r, e, _⟩ := h
    cases e
theorem Reps.length : ∀ {vs : List V} {ds : List D}, Reps K H g vs ds → vs.length = ds.length
  | vs, [], h => by rw [Reps] at h; rw [h]; rfl
  | vs, d :: ds, h => by
    rw [Reps] at h
    obtain ⟨v, r, e, _, h2⟩ := h
    rw [e]
    exact congrArg (· + 1) (Reps.length h2)
theorem Reps.get : ∀ {vs : List V} {ds : List D} {i : Nat} {d : D}, Reps K H g vs ds → ds[i]? = some d → ∃ v, vs[i]? = some v ∧ Rep K H g v d
  | vs, [], i, d, _, e => by simp at e
  | vs, x :: ds, i, d, h, e => by
    rw [Reps] at h
    obtain ⟨v, r, ev, h1, h2⟩ := h
    subst ev
    cases i with
    | zero => simp at e; subst e; exact ⟨v, rfl, h1⟩
    | succ j =>
      obtain ⟨w, e1, h3⟩ := Reps.get h2 (i := j) (by simpa using e)
      exact ⟨w, by simpa using e1, h3⟩
theorem Reps.get' : ∀ {vs : List V} {ds : List D} {i : Nat} {v : V}, Reps K H g vs ds → vs[i]? = some v → ∃ d, ds[i]? = some d ∧ Rep K H g v d
  | vs, [], i, v, h, e => by rw [Reps] at h; subst h; simp at e
  | vs, x :: ds, i, v, h, e => by
    rw [Reps] at h
    obtain ⟨w, r, ev, h1, h2⟩ := h
    subst ev
    cases i with
    | zero => simp at e; subst e; exact ⟨x, rfl, h1⟩
    | succ j =>
      obtain ⟨d, e1, h3⟩ := Reps.get' h2 (i := j) (by simpa using e)
      exact ⟨d, by simpa using e1, h3⟩
theorem Reps.append : ∀ {vs us : List V} {ds es : List D}, Reps K H g vs ds → Reps K H g us es → Reps K H g (vs ++ us) (ds ++ es)
  | vs, us, [], es, h, h' => by rw [Reps] at h; subst h; exact h'
  | vs, us, d :: ds, es, h, h' => by
    rw [Reps] at h
    obtain ⟨v, r, e, h1, h2⟩ := h
    subst e
    exact reps_cons h1 (Reps.append h2 h')
theorem Reps.take (n : Nat) : ∀ {vs : List V} {ds : List D}, Reps K H g vs ds → Reps K H g (vs.take n) (ds.take n) := by
  induction n with
  | zero => intro vs ds _; simp; exact reps_nil
  | succ n ih =>
    intro vs ds h
    cases ds with
    | nil => rw [Reps] at h; subst h; simp; exact reps_nil
    | cons d ds =>
      rw [Reps] at h
      obtain ⟨v, r, e, h1, h2⟩ := h
      subst e
      exact reps_cons h1 (ih h2)
theorem Reps.drop (n : Nat) : ∀ {vs : List V} {ds : List D}, Reps K H g vs ds → Reps K H g (vs.drop n) (ds.drop n) := by
  induction n with
  | zero => intro vs ds h; exact h
  | succ n ih =>
    intro vs ds h
    cases ds with
    | nil => rw [Reps] at h; subst h; simp; exact reps_nil
    | cons d ds =>
      rw [Reps] at h
      obtain ⟨v, r, e, h1, h2⟩ := h
      subst e
      exact ih h2
theorem Reps.set {v : V} {d : D} (h1 : Rep K H g v d) : ∀ (i : Nat) {vs : List V} {ds : List D}, Reps K H g vs ds → Reps K H g (vs.set i v) (ds.set i d) := by
  intro i
  induction i with
  | zero =>
    intro vs ds h
    cases ds with
    | nil => rw [Reps] at h; subst h; exact reps_nil
    | cons x ds =>
      rw [Reps] at h
      obtain ⟨w, r, e, _, h2⟩ := h
      subst e
      exact reps_cons h1 h2
  | succ n ih =>
    intro vs ds h
    cases ds with
    | nil => rw [Reps] at h; subst h; exact reps_nil
    | cons x ds =>
      rw [Reps] at h
      obtain ⟨w, r, e, h3, h2⟩ := h
      subst e
      exact reps_cons h3 (ih h2)
theorem Reps.eraseIdx : ∀ (i : Nat) {vs : List V} {ds : List D}, Reps K H g vs ds → Reps K H g (vs.eraseIdx i) (ds.eraseIdx i) := by
  intro i
  induction i with
  | zero =>
    intro vs ds h
    cases ds with
    | nil => rw [Reps] at h; subst h; exact reps_nil
    | cons x ds => obtain ⟨w, r, e, _, h2⟩ := (by rw [Reps] at h; exact h); subst e; exact h2
  | succ n ih =>
    intro vs ds h
    cases ds with
    | nil => rw [Reps] at h; subst h; exact reps_nil
    | cons x ds => obtain ⟨w, r, e, h3, h2⟩ := (by rw [Reps] at h; exact h); subst e; exact reps_cons h3 (ih h2)
theorem Reps.reverse : ∀ {vs : List V} {ds : List D}, Reps K H g vs ds → Reps K H g vs.reverse ds.reverse
  | vs, [], h => by rw [Reps] at h; subst h; exact reps_nil
  | vs, d :: ds, h => by
    rw [Reps] at h
    obtain ⟨v, r, e, h1, h2⟩ := h
    subst e
    rw [List.reverse_cons, List.reverse_cons]
    exact Reps.append (Reps.reverse h2) (reps_cons h1 reps_nil)
theorem Reps.dropLast {vs : List V} {ds : List D} (h : Reps K H g vs ds) : Reps K H g vs.dropLast ds.dropLast := by
  rw [List.dropLast_eq_take, List.dropLast_eq_take, h.length]
  exact h.take _
theorem Reps.rep {vs : List V} {ds : List D} (h : Reps K H g vs ds) : ∀ n : Nat, Reps K H g (List.replicate n vs).flatten (repL ds n)
  | 0 => reps_nil
  | n + 1 => by
    have e : repL ds (n + 1) = ds ++ repL ds n := by unfold repL; simp [List.replicate_succ]
    rw [e, List.replicate_succ, List.flatten_cons]
    exact h.append (h.rep n)

/-! ### later heaps -/
structure Gok (H : Hp) (g : Gh) : Prop where
  fz : ∀ a, g.F a → (∃ o, H a = some o) ∧ a ∉ g.μ
  mu : ∀ a ∈ g.μ, ∃ o, H a = some o ∧ MutO o
  nd : g.μ.Nodup
structure Ext (H : Hp) (g : Gh) (H' : Hp) (g' : Gh) : Prop where
  fz : ∀ a, g.F a → g'.F a
  mu : ∃ m, g'.μ = g.μ ++ m ∧ ∀ a ∈ m, H a = none
  keep : ∀ a o, H a = some o → a ∉ g.μ → H' a = some o
  new : ∀ a, g'.F a → g.F a ∨ H a = none
theorem Ext.refl : Ext H g H g := ⟨fun _ h => h, ⟨[], by simp, by simp⟩, fun _ _ h _ => h, fun _ h => .inl h⟩
theorem Ext.there {H1 : Hp} {g1 : Gh} (e : Ext H g H1 g1) (ok : Gok H1 g1) {a : Addr} {o : HO} (h : H a = some o) : ∃ o', H1 a = some o' := by
  by_cases m : a ∈ g.μ
  · obtain ⟨l, e1, _⟩ := e.mu
    obtain ⟨o', h', _⟩ := ok.mu a (by rw [e1]; exact List.mem_append_left _ m)
    exact ⟨o', h'⟩
  · exact ⟨o, e.keep a o h m⟩
theorem Ext.trans {H1 H2 : Hp} {g1 g2 : Gh} (a : Ext H g H1 g1) (ok : Gok H1 g1) (b : Ext H1 g1 H2 g2) : Ext H g H2 g2 := by
  obtain ⟨l1, e1, n1⟩ := a.mu
  obtain ⟨l2, e2, n2⟩ := b.mu
  have none1 : ∀ x, H1 x = none → H x = none := fun x hx => by
    cases q : H x with
    | none => rfl
    | some o =>
      obtain ⟨o', h'⟩ := a.there ok q
      rw [hx] at h'; cases h'
  refine ⟨fun x h => b.fz x (a.fz x h), ⟨l1 ++ l2, by rw [e2, e1, List.append_assoc], fun x hx => ?_⟩, fun x o h m => ?_, fun x h => ?_⟩
  · rcases List.mem_append.mp hx with h | h
    · exact n1 x h
    · exact none1 x (n2 x h)
  · refine b.keep x o (a.keep x o h m) fun m1 => ?_
    rw [e1] at m1
    rcases List.mem_append.mp m1 with q | q
    · exact m q
    · rw [n1 x q] at h; cases h
  · rcases b.new x h with q | q
    · exact a.new x q
    · exact .inr (none1 x q)
/-- what a value's place leans on -/
structure Mon (H : Hp) (g : Gh) (H' : Hp) (g' : Gh) : Prop where
  fz : ∀ a, g.F a → g'.F a
  mu : ∃ m, g'.μ = g.μ ++ m
  keep : ∀ a o, H a = some o → a ∉ g.μ → H' a = some o
theorem Ext.mon (e : Ext H g H' g') : Mon H g H' g' := ⟨e.fz, let ⟨m, h, _⟩ := e.mu; ⟨m, h⟩, e.keep⟩
theorem Mon.rdT (e : Mon H g H' g') (ok : Gok H g) {a : Addr} {xs : List V} (h : SqT K H a xs) : SqT K H' a xs := by
  have nm : ∀ o, H a = some o → ¬ MutO o → a ∉ g.μ := fun o q nm m => by
    obtain ⟨o', q', m'⟩ := ok.mu a m
    rw [q] at q'; cases q'; exact nm m'
  rcases h with (h | ⟨o, h⟩) | h
  · exact .inl (.inl (e.keep a _ h (nm _ h (by simp [MutO]))))
  · exact .inl (.inr ⟨o, e.keep a _ h (nm _ h (by simp [MutO]))⟩)
  · exact .inr h
theorem Mon.rdF (e : Mon H g H' g') (ok : Gok H g) {a : Addr} {o : HO} (f : g.F a) (h : Rd H a o) : Rd H' a o := by
  have nm := (ok.fz a f).2
  rcases h with h | ⟨ob, h⟩
  · exact .inl (e.keep a _ h nm)
  · exact .inr ⟨ob, e.keep a _ h nm⟩
mutual
theorem Rep.mon (e : Mon H g H' g') (ok : Gok H g) : ∀ {d : D} {v : V}, Rep K H g v d → Rep K H' g' v d
  | .non, v, h => by rw [Rep] at h ⊢; exact h
  | .bl b, v, h => by rw [Rep] at h ⊢; exact h
  | .int i, v, h => by rw [Rep] at h ⊢; exact h
  | .str s, v, h => by rw [Rep] at h ⊢; exact h
  | .tup ds, v, h => by
    rw [Rep] at h ⊢
    obtain ⟨a, xs, e1, h1, h2⟩ := h
    exact ⟨a, xs, e1, e.rdT ok h1, Reps.mon e ok h2⟩
  | .lst ds, v, h => by
    rw [Rep] at h ⊢
    obtain ⟨a, xs, e1, h1, h2⟩ := h
    refine ⟨a, xs, e1, ?_, Reps.mon e ok h2⟩
    rcases h1 with ⟨h1, f⟩ | h1
    · exact .inl ⟨e.rdF ok f h1, e.fz a f⟩
    · exact .inr h1
  | .scr ds, v, h => by
    rw [Rep] at h ⊢
    obtain ⟨a, xs, e1, h1, h2⟩ := h
    refine ⟨a, xs, e1, ?_, Reps.mon e ok h2⟩
    rcases h1 with ⟨h1, f⟩ | h1
    · exact .inl ⟨e.rdF ok f h1, e.fz a f⟩
    · exact .inr h1
  | .dct ks ds, v, h => by
    rw [Rep] at h ⊢
    obtain ⟨a, ob, o, xs, e1, h1, f, h2, h3⟩ := h
    exact ⟨a, ob, o, xs, e1, e.keep a _ h1 (ok.fz a f).2, e.fz a f, h2, Reps.mon e ok h3⟩
  | .loc l, v, h => by
    rw [Rep] at h ⊢
    obtain ⟨a, e1, h1⟩ := h
    obtain ⟨m, e2⟩ := e.mu
    refine ⟨a, e1, ?_⟩
    rw [e2, List.getElem?_append_left (List.getElem?_eq_some_iff.mp h1).1]
    exact h1
theorem Reps.mon (e : Mon H g H' g') (ok : Gok H g) : ∀ {ds : List D} {vs : List V}, Reps K H g vs ds → Reps K H' g' vs ds
  | [], vs, h => by rw [Reps] at h ⊢; exact h
  | d :: ds, vs, h => by
    rw [Reps] at h ⊢
    obtain ⟨v, r, e1, h1, h2⟩ := h
    exact ⟨v, r, e1, Rep.mon e ok h1, Reps.mon e ok h2⟩
end
theorem Rep.ext (e : Ext H g H' g') (ok : Gok H g) {d : D} {v : V} (r : Rep K H g v d) : Rep K H' g' v d := r.mon e.mon ok
theorem Reps.ext (e : Ext H g H' g') (ok : Gok H g) {d : List D} {v : List V} (r : Reps K H g v d) : Reps K H' g' v d := r.mon e.mon ok
end

/-! ### the store, the frame -/
def CellOk (K : Frag) (H : Hp) (g : Gh) (a : Addr) : Cell → Prop
  | .lst ds => ∃ xs, H a = some (.lst xs) ∧ Reps K H g xs ds
  | .dct ks ds => ∃ o xs, H a = some o ∧ MutO o ∧ DicOf o ks xs ∧ Reps K H g xs ds
/-- the address of an owned slot -/
def ownAt (σ : St) (ρ : Env) (i : Nat) (a : Addr) : Prop := (∃ s, ρ[i]? = some s ∧ (match s with
  | .own _ => True
  | .ownD _ _ => True
  | _ => False)) ∧ σ[i]? = some (some (.ref a))
def SlotOk (K : Frag) (H : Hp) (g : Gh) (v : Option V) : Slot → Prop
  | .no => True
  | .val d => ∃ x, v = some x ∧ Rep K H g x d
  | .own ds => ∃ a xs, v = some (.ref a) ∧ H a = some (.lst xs) ∧ ¬ g.F a ∧ a ∉ g.μ ∧ Reps K H g xs ds
  | .ownD ks ds => ∃ a o xs, v = some (.ref a) ∧ H a = some o ∧ MutO o ∧ ¬ g.F a ∧ a ∉ g.μ ∧ DicOf o ks xs ∧ Reps K H g xs ds
  | .exc _ _ => True
structure Rel (K : Frag) (g : Gh) (σ : St) (H : Hp) (ρ : Env) (S : Store) : Prop where
  ok : Gok H g
  cl : S.length = g.μ.length
  cells : ∀ (l : Nat) c, S[l]? = some c → ∃ a, g.μ[l]? = some a ∧ CellOk K H g a c
  len : σ.length = ρ.length
  env : ∀ (i : Nat) s, ρ[i]? = some s → ∃ v, σ[i]? = some v ∧ SlotOk K H g v s
  sep : ∀ i j a, ownAt σ ρ i a → ownAt σ ρ j a → i = j
section
variable {K : Frag} {H H' : Hp} {g g' : Gh} {σ : St} {ρ : Env} {S S' : Store}
theorem Ext.slot (e : Ext H g H' g') (ok : Gok H g) {v : Option V} {s : Slot} (h : SlotOk K H g v s) : SlotOk K H' g' v s := by
  cases s with
  | no => trivial
  | val d => obtain ⟨x, e1, h1⟩ := h; exact ⟨x, e1, h1.ext e ok⟩
  | own ds =>
    obtain ⟨a, xs, e1, h1, nf, nm, h2⟩ := h
    refine ⟨a, xs, e1, e.keep a _ h1 nm, fun f => ?_, fun m => ?_, h2.ext e ok⟩
    · rcases e.new a f with q | q
      · exact nf q
      · rw [h1] at q; cases q
    · obtain ⟨l, e2, n2⟩ := e.mu
      rw [e2] at m
      rcases List.mem_append.mp m with q | q
      · exact nm q
      · rw [n2 a q] at h1; cases h1
  | ownD ks ds =>
    obtain ⟨a, o, xs, e1, h1, mo, nf, nm, h3, h2⟩ := h
    refine ⟨a, o, xs, e1, e.keep a _ h1 nm, mo, fun f => ?_, fun m => ?_, h3, h2.ext e ok⟩
    · rcases e.new a f with q | q
      · exact nf q
      · rw [h1] at q; cases q
    · obtain ⟨l, e2, n2⟩ := e.mu
      rw [e2] at m
      rcases List.mem_append.mp m with q | q
      · exact nm q
      · rw [n2 a q] at h1; cases h1
  | exc c fs => trivial
/-- the same frame in a later heap -/
structure After (K : Frag) (H : Hp) (g : Gh) (H' : Hp) (g' : Gh) (S' : Store) : Prop where
  ext : Ext H g H' g'
  ok : Gok H' g'
  cl : S'.length = g'.μ.length
  cells : ∀ (l : Nat) c, S'[l]? = some c → ∃ a, g'.μ[l]? = some a ∧ CellOk K H' g' a c
theorem Rel.after (r : Rel K g σ H ρ S) (a : After K H g H' g' S') : Rel K g' σ H' ρ S' :=
  ⟨a.ok, a.cl, a.cells, r.len, fun i s e => let ⟨v, e1, h⟩ := r.env i s e; ⟨v, e1, a.ext.slot r.ok h⟩, r.sep⟩
theorem Rel.self (r : Rel K g σ H ρ S) : After K H g H g S := ⟨Ext.refl, r.ok, r.cl, r.cells⟩
theorem After.trans {H1 H2 : Hp} {g1 g2 : Gh} {S1 S2 : Store} (a : After K H g H1 g1 S1) (b : After K H1 g1 H2 g2 S2) : After K H g H2 g2 S2 :=
  ⟨a.ext.trans a.ok b.ext, b.ok, b.cl, b.cells⟩
end
end Mini

set_option maxHeartbeats 4000000
/-! MINI, part 3: an expression of Python means a function of MINI: the judgement DE and its rules. -/
namespace Mini
open PySem PySem.Spec PyProof.Rows L2

/-- the classes of errors: where they stand, the names of their fields -/
abbrev CT := Nat → Option (Addr × List Str)
def ExcOk (K : Frag) (ct : CT) (H : Hp) (g : Gh) (c : Nat) (fs : List D) (cl : Value) (dd : Option Addr) : Prop :=
  ∃ C ns, ct c = some (C, ns) ∧ cl = .ref C ∧ ((ns = [] ∧ fs = [] ∧ dd = none) ∨ (ns ≠ [] ∧ ∃ d xs, dd = some d ∧ xs.length = ns.length ∧ H d = some (.xd (ns.zip xs)) ∧ Reps K H g xs fs))
/-- the end of a reckoning: what is wanted of its value, of its error -/
def Out {α β : Type} (K : Frag) (ct : CT) (H : Hp) (g : Gh) (W : Value → Option Addr → Hp → Prop) (RA : Hp → Gh → β → α → Prop) (Q : β → Hp → Prop) : R α → Prop
  | .ok a S => ∀ H' g' b, After K H g H' g' S → RA H' g' b a → Q b H'
  | .err c fs S => ∀ H' g' cl dd, After K H g H' g' S → ExcOk K ct H' g' c fs cl dd → W cl dd H'
  | .bad => False
section
variable {K : Frag} {ct : CT} {H : Hp} {g : Gh} {W : Value → Option Addr → Hp → Prop} {α β γ δ : Type}
theorem Out.bi {RA : Hp → Gh → β → α → Prop} {RC : Hp → Gh → δ → γ → Prop} {Q : δ → Hp → Prop} {m : M α} {f : α → M γ} {S : Store} (h : Out K ct H g W RC Q (bnd m f S)) :
    Out K ct H g W RA (fun b H1 => ∃ g1 a S1, After K H g H1 g1 S1 ∧ RA H1 g1 b a ∧ Out K ct H1 g1 W RC Q (f a S1)) (m S) := by
  unfold Mini.bnd at h
  cases e : m S with
  | ok a S1 =>
    rw [e] at h
    intro H1 g1 b af ra
    refine ⟨g1, a, S1, af, ra, ?_⟩
    have h' : Out K ct H g W RC Q (f a S1) := h
    cases e2 : f a S1 with
    | ok c S2 => rw [e2] at h'; exact fun H' g' b' a2 r2 => h' H' g' b' (af.trans a2) r2
    | err c fs S2 => rw [e2] at h'; exact fun H' g' cl dd a2 r2 => h' H' g' cl dd (af.trans a2) r2
    | bad => rw [e2] at h'; exact h'
  | err c fs S1 => rw [e] at h; exact h
  | bad => rw [e] at h; exact h
theorem Out.lk {RC : Hp → Gh → δ → γ → Prop} {Q : δ → Hp → Prop} {f : Store → Option α} {k : α → M γ} {S : Store} (h : Out K ct H g W RC Q (bnd (look f) k S)) : ∃ a, f S = some a ∧ Out K ct H g W RC Q (k a S) := by
  unfold Mini.bnd Mini.look at h
  cases e : f S with
  | none => rw [e] at h; exact h.elim
  | some a => rw [e] at h; exact ⟨a, rfl, h⟩
theorem Out.lk1 {RC : Hp → Gh → δ → α → Prop} {Q : δ → Hp → Prop} {f : Store → Option α} {S : Store} (h : Out K ct H g W RC Q (look f S)) : ∃ a, f S = some a ∧ Out K ct H g W RC Q (.ok a S) := by
  unfold Mini.look at h
  cases e : f S with
  | none => rw [e] at h; exact h.elim
  | some a => rw [e] at h; exact ⟨a, rfl, h⟩
theorem Out.lf {RC : Hp → Gh → δ → γ → Prop} {Q : δ → Hp → Prop} {o : Option α} {k : α → M γ} {S : Store} (h : Out K ct H g W RC Q (bnd (lift o) k S)) : ∃ a, o = some a ∧ Out K ct H g W RC Q (k a S) := by
  cases o with
  | none => exact h.elim
  | some a => exact ⟨a, rfl, h⟩
theorem Out.it {RC : Hp → Gh → δ → γ → Prop} {Q : δ → Hp → Prop} {c : Prop} [Decidable c] {m : M γ} {S : Store} (h : Out K ct H g W RC Q ((if c then m else bad) S)) : c ∧ Out K ct H g W RC Q (m S) := by
  by_cases hc : c
  · rw [if_pos hc] at h; exact ⟨hc, h⟩
  · rw [if_neg hc] at h; exact h.elim
theorem Out.mono {RA : Hp → Gh → β → α → Prop} {Q Q' : β → Hp → Prop} {r : R α} (h : Out K ct H g W RA Q r) (i : ∀ b H, Q b H → Q' b H) : Out K ct H g W RA Q' r := by
  cases r with
  | ok a S => exact fun H' g' b x y => i _ _ (h H' g' b x y)
  | err c fs S => exact h
  | bad => exact h
end

abbrev RD (K : Frag) : Hp → Gh → V → D → Prop := fun H g v d => Rep K H g v d
abbrev RDs (K : Frag) : Hp → Gh → List V → List D → Prop := fun H g v d => Reps K H g v d
abbrev RB : Hp → Gh → Bool → Bool → Prop := fun _ _ b a => b = a
/-- the reading of a reckoning m of the frame -/
def TEv (K : Frag) (ct : CT) (W : WX) (m : Env → M D) : TE := fun σ H Q => ∃ g ρ S, Rel K g σ H ρ S ∧ Out K ct H g (fun c d H' => W c d σ H') (RD K) Q (m ρ S)
def TAv (K : Frag) (ct : CT) (W : WX) (m : Env → M (List D)) : TA := fun σ H Q => ∃ g ρ S, Rel K g σ H ρ S ∧ Out K ct H g (fun c d H' => W c d σ H') (RDs K) Q (m ρ S)
def TTv (K : Frag) (ct : CT) (W : WX) (m : Env → M Bool) : TT := fun σ H Q => ∃ g ρ S, Rel K g σ H ρ S ∧ Out K ct H g (fun c d H' => W c d σ H') RB Q (m ρ S)
abbrev DE (X : L2.Cx) (ct : CT) (W : WX) (e : Expr) (m : Env → M D) : Prop := PE X e (TEv X.K ct W m)
abbrev DA (X : L2.Cx) (ct : CT) (W : WX) (e : List Expr) (m : Env → M (List D)) : Prop := PA X e (TAv X.K ct W m)
abbrev DT (X : L2.Cx) (ct : CT) (W : WX) (e : Expr) (m : Env → M Bool) : Prop := PT X e (TTv X.K ct W m)

theorem _root_.L2.PE.imp {X : L2.Cx} {e : Expr} {t t' : TE} (h : PE X e t) (i : ∀ σ H Q, t' σ H Q → t σ H Q) : PE X e t' := ⟨fun pins s σ H Q I q => h.run pins s σ H Q I (i σ H Q q)⟩
theorem _root_.L2.PT.imp {X : L2.Cx} {e : Expr} {t t' : TT} (h : PT X e t) (i : ∀ σ H Q, t' σ H Q → t σ H Q) : PT X e t' := ⟨fun pins s σ H Q I q => h.run pins s σ H Q I (i σ H Q q)⟩
theorem _root_.L2.PA.imp {X : L2.Cx} {e : List Expr} {t t' : TA} (h : PA X e t) (i : ∀ σ H Q, t' σ H Q → t σ H Q) : PA X e t' := ⟨fun pos pins s σ H Q I q => h.run pos pins s σ H Q I (i σ H Q q)⟩

section
variable {X : L2.Cx} {ct : CT} {W : WX} {a b c : Expr} {ma mb mc : Env → M D} {pos : Pos}
/-! ### names, constants -/
theorem de_var {i : Nat} {x : Str} (hN : X.N[i]? = some x) (hv : Vis X.env.scope x) (hd : (x == ("__debug__" : Str)) = false) (hcd : (x == ("__classdict__" : Str)) = false) : DE X ct W (.Name x pos) (fun ρ => lift (getV ρ i)) := by
  refine (pe_var hN hv hd hcd).imp fun σ H Q ⟨g, ρ, S, r, h⟩ => ?_
  cases e : ρ[i]? with
  | none => simp only [getV, e, lift] at h; exact h.elim
  | some s =>
    cases s with
    | val d =>
      simp only [getV, e, lift] at h
      obtain ⟨v, e1, x, e2, hr⟩ := r.env i _ e
      subst e2
      exact ⟨x, e1, h H g x r.self hr⟩
    | _ => simp only [getV, e, lift] at h; exact h.elim
theorem de_int {i : Int} {j : Nat} : DE X ct W (.Constant (.int i) j pos) (fun _ => ret (.int i)) :=
  L2.PE.imp pe_int fun σ H Q ⟨g, ρ, S, r, h⟩ => h H g (.int i) r.self (by rw [RD, Rep])
theorem de_bl {i : Bool} {j : Nat} : DE X ct W (.Constant (.bool i) j pos) (fun _ => ret (.bl i)) :=
  L2.PE.imp pe_bl fun σ H Q ⟨g, ρ, S, r, h⟩ => h H g (.bl i) r.self (by rw [RD, Rep])
theorem de_non {j : Nat} : DE X ct W (.Constant .none j pos) (fun _ => ret .non) :=
  L2.PE.imp pe_non fun σ H Q ⟨g, ρ, S, r, h⟩ => h H g .non r.self (by rw [RD, Rep])
theorem de_str {x : Str} {j : Nat} : DE X ct W (.Constant (.str x) j pos) (fun _ => ret (.str x)) :=
  L2.PE.imp pe_str fun σ H Q ⟨g, ρ, S, r, h⟩ => h H g (.str x) r.self (by rw [RD, Rep])

/-! ### argument lists -/
theorem da_nil : DA X ct W [] (fun _ => ret []) := L2.PA.imp pa_nil fun σ H Q ⟨g, ρ, S, r, h⟩ => h H g [] r.self reps_nil
theorem da_cons {es : List Expr} {ms : Env → M (List D)} (ha : DE X ct W a ma) (hs : DA X ct W es ms) (he : starEach (a :: es) X.env = (false, eval a X.env) :: starEach es X.env) :
    DA X ct W (a :: es) (fun ρ => bnd (ma ρ) fun x => bnd (ms ρ) fun xs => ret (x :: xs)) := by
  refine (pa_cons ha hs he).imp fun σ H Q ⟨g, ρ, S, r, h⟩ => ?_
  refine ⟨g, ρ, S, r, (Out.bi (RA := RD X.K) h).mono fun v H1 ⟨g1, d, S1, af, rv, h1⟩ => ?_⟩
  refine ⟨g1, ρ, S1, r.after af, (Out.bi (RA := RDs X.K) h1).mono fun vs H2 ⟨g2, ds, S2, af2, rvs, h2⟩ => ?_⟩
  exact h2 H2 g2 (v :: vs) ⟨Ext.refl, af2.ok, af2.cl, af2.cells⟩ (reps_cons (rv.ext af2.ext af.ok) rvs)

/-! ### operators of two values -/
/-- r serves f -/
def OpD (K : Frag) (r : R2) (f : D → D → Store → Option D) : Prop :=
  ∀ (H : Hp) (g : Gh) (S : Store) (x y : V) (d e z : D) (Q : VK), After K H g H g S → Rep K H g x d → Rep K H g y e → f d e S = some z →
    (∀ H' g' v, After K H g H' g' S → Rep K H' g' v z → Q v H') → r x y H Q
theorem de_op {op : Operator} {r : R2} {f : D → D → Store → Option D} (ho : OpR X (binaryOp op) r) (hf : OpD X.K r f) (ha : DE X ct W a ma) (hb : DE X ct W b mb) :
    DE X ct W (.BinOp a op b pos) (fun ρ => bnd (ma ρ) fun x => bnd (mb ρ) fun y => look (f x y)) := by
  refine (pe_op ho ha hb).imp fun σ H Q ⟨g, ρ, S, r, h⟩ => ?_
  refine ⟨g, ρ, S, r, (Out.bi (RA := RD X.K) h).mono fun v H1 ⟨g1, d, S1, af, rv, h1⟩ => ?_⟩
  refine ⟨g1, ρ, S1, r.after af, (Out.bi (RA := RD X.K) h1).mono fun u H2 ⟨g2, e, S2, af2, ru, h2⟩ => ?_⟩
  obtain ⟨z, hz, h3⟩ := Out.lk1 h2
  exact hf H2 g2 S2 v u d e z Q ⟨Ext.refl, af2.ok, af2.cl, af2.cells⟩ (rv.ext af2.ext af.ok) ru hz h3
/-- a comparison's -/
def OpB (K : Frag) (r : R2) (f : D → D → Store → Option Bool) : Prop :=
  ∀ (H : Hp) (g : Gh) (S : Store) (x y : V) (d e : D) (z : Bool) (Q : VK), After K H g H g S → Rep K H g x d → Rep K H g y e → f d e S = some z →
    Q (.bl z) H → r x y H Q
theorem Out.bl {K : Frag} {H : Hp} {g : Gh} {S : Store} {W' : Value → Option Addr → Hp → Prop} {z : Bool} {Q : VK} (h : Out K ct H g W' (RD K) Q (.ok (.bl z) S)) (a : After K H g H g S) : Q (.bl z) H :=
  h H g (.bl z) a (by rw [RD, Rep])
theorem de_cmp {op : CmpOp} {r : R2} {f : D → D → Store → Option Bool} (ho : OpR X (compareOp op) r) (hf : OpB X.K r f) (ha : DE X ct W a ma) (hb : DE X ct W b mb) (hm : behindInMarks op b = false) :
    DE X ct W (.Compare a [op] [b] pos) (fun ρ => bnd (ma ρ) fun x => bnd (mb ρ) fun y => bnd (look (f x y)) fun k => ret (.bl k)) := by
  refine (pe_cmpR ho ha hb hm).imp fun σ H Q ⟨g, ρ, S, r, h⟩ => ?_
  refine ⟨g, ρ, S, r, (Out.bi (RA := RD X.K) h).mono fun v H1 ⟨g1, d, S1, af, rv, h1⟩ => ?_⟩
  refine ⟨g1, ρ, S1, r.after af, (Out.bi (RA := RD X.K) h1).mono fun u H2 ⟨g2, e, S2, af2, ru, h2⟩ => ?_⟩
  obtain ⟨z, hz, h3⟩ := Out.lk h2
  have self : After X.K H2 g2 H2 g2 S2 := ⟨Ext.refl, af2.ok, af2.cl, af2.cells⟩
  exact hf H2 g2 S2 v u d e z Q self (rv.ext af2.ext af.ok) ru hz (Out.bl h3 self)
theorem dt_cmp {op : CmpOp} {r : R2} {f : D → D → Store → Option Bool} (ho : OpR X (compareOp op) r) (hf : OpB X.K r f) (ha : DE X ct W a ma) (hb : DE X ct W b mb) (hm : behindInMarks op b = false) :
    DT X ct W (.Compare a [op] [b] pos) (fun ρ => bnd (ma ρ) fun x => bnd (mb ρ) fun y => look (f x y)) := by
  refine (pt_cmpR ho ha hb hm).imp fun σ H Q ⟨g, ρ, S, r, h⟩ => ?_
  refine ⟨g, ρ, S, r, (Out.bi (RA := RD X.K) h).mono fun v H1 ⟨g1, d, S1, af, rv, h1⟩ => ?_⟩
  refine ⟨g1, ρ, S1, r.after af, (Out.bi (RA := RD X.K) h1).mono fun u H2 ⟨g2, e, S2, af2, ru, h2⟩ => ?_⟩
  obtain ⟨z, hz, h3⟩ := Out.lk1 h2
  have self : After X.K H2 g2 H2 g2 S2 := ⟨Ext.refl, af2.ok, af2.cl, af2.cells⟩
  exact hf H2 g2 S2 v u d e z _ self (rv.ext af2.ext af.ok) ru hz ⟨z, rfl, h3 H2 g2 z self rfl⟩
/-- a < b < c -/
theorem de_chain {op op' : CmpOp} {r r' : R2} {f f' : D → D → Store → Option Bool} (ho : OpR X (compareOp op) r) (hf : OpB X.K r f) (ho' : OpR X (compareOp op') r') (hf' : OpB X.K r' f')
    (ha : DE X ct W a ma) (hb : DE X ct W b mb) (hc : DE X ct W c mc) (hm : lastMarks [op, op'] [b, c] = false) :
    DE X ct W (.Compare a [op, op'] [b, c] pos) (fun ρ => bnd (ma ρ) fun x => bnd (mb ρ) fun y => bnd (look (f x y)) fun k =>
      if k then bnd (mc ρ) fun z => bnd (look (f' y z)) fun k2 => ret (.bl k2) else ret (.bl false)) := by
  refine (pe_chain ho ho' ha hb hc hm).imp fun σ H Q ⟨g, ρ, S, r, h⟩ => ?_
  refine ⟨g, ρ, S, r, (Out.bi (RA := RD X.K) h).mono fun v H1 ⟨g1, d, S1, af, rv, h1⟩ => ?_⟩
  refine ⟨g1, ρ, S1, r.after af, (Out.bi (RA := RD X.K) h1).mono fun u H2 ⟨g2, e, S2, af2, ru, h2⟩ => ?_⟩
  obtain ⟨k, hk, h3⟩ := Out.lk h2
  have self : After X.K H2 g2 H2 g2 S2 := ⟨Ext.refl, af2.ok, af2.cl, af2.cells⟩
  refine hf H2 g2 S2 v u d e k _ self (rv.ext af2.ext af.ok) ru hk ⟨k, rfl, ?_⟩
  cases k with
  | false => rw [if_neg Bool.false_ne_true]; exact Out.bl h3 self
  | true =>
    rw [if_pos rfl]
    have h3' : Out X.K ct H2 g2 (fun c d H' => W c d σ H') (RD X.K) Q (bnd (mc ρ) (fun z => bnd (look (f' e z)) fun k2 => ret (.bl k2)) S2) := h3
    refine ⟨g2, ρ, S2, (r.after af).after af2, (Out.bi (RA := RD X.K) h3').mono fun w H3 ⟨g3, z, S3, af3, rw', h4⟩ => ?_⟩
    obtain ⟨k2, hk2, h5⟩ := Out.lk h4
    have self3 : After X.K H3 g3 H3 g3 S3 := ⟨Ext.refl, af3.ok, af3.cl, af3.cells⟩
    exact hf' H3 g3 S3 u w e z k2 _ self3 (ru.ext af3.ext af2.ok) rw' hk2 (Out.bl h5 self3)
theorem dt_chain {op op' : CmpOp} {r r' : R2} {f f' : D → D → Store → Option Bool} (ho : OpR X (compareOp op) r) (hf : OpB X.K r f) (ho' : OpR X (compareOp op') r') (hf' : OpB X.K r' f')
    (ha : DE X ct W a ma) (hb : DE X ct W b mb) (hc : DE X ct W c mc) (hm : lastMarks [op, op'] [b, c] = false) :
    DT X ct W (.Compare a [op, op'] [b, c] pos) (fun ρ => bnd (ma ρ) fun x => bnd (mb ρ) fun y => bnd (look (f x y)) fun k =>
      if k then bnd (mc ρ) fun z => look (f' y z) else ret false) := by
  refine (pt_chain ho ho' ha hb hc hm).imp fun σ H Q ⟨g, ρ, S, r, h⟩ => ?_
  refine ⟨g, ρ, S, r, (Out.bi (RA := RD X.K) h).mono fun v H1 ⟨g1, d, S1, af, rv, h1⟩ => ?_⟩
  refine ⟨g1, ρ, S1, r.after af, (Out.bi (RA := RD X.K) h1).mono fun u H2 ⟨g2, e, S2, af2, ru, h2⟩ => ?_⟩
  obtain ⟨k, hk, h3⟩ := Out.lk h2
  have self : After X.K H2 g2 H2 g2 S2 := ⟨Ext.refl, af2.ok, af2.cl, af2.cells⟩
  refine hf H2 g2 S2 v u d e k _ self (rv.ext af2.ext af.ok) ru hk ⟨k, rfl, ?_⟩
  cases k with
  | false => rw [if_neg Bool.false_ne_true]; exact ⟨false, rfl, h3 H2 g2 false self rfl⟩
  | true =>
    rw [if_pos rfl]
    have h3' : Out X.K ct H2 g2 (fun c d H' => W c d σ H') RB Q (bnd (mc ρ) (fun z => look (f' e z)) S2) := h3
    refine ⟨g2, ρ, S2, (r.after af).after af2, (Out.bi (RA := RD X.K) h3').mono fun w H3 ⟨g3, z, S3, af3, rw', h4⟩ => ?_⟩
    obtain ⟨k2, hk2, h5⟩ := Out.lk1 h4
    have self3 : After X.K H3 g3 H3 g3 S3 := ⟨Ext.refl, af3.ok, af3.cl, af3.cells⟩
    exact hf' H3 g3 S3 u w e z k2 _ self3 (ru.ext af3.ext af2.ok) rw' hk2 ⟨k2, rfl, h5 H3 g3 k2 self3 rfl⟩
end
end Mini

set_option maxHeartbeats 4000000
/-! MINI, part 4: the operators. -/
namespace Mini
open PySem PySem.Spec PyProof.Rows L2
theorem line_eq : sizeLine = line := sizeLine_eq
section
variable {K : Frag} {H H' : Hp} {g g' : Gh} {S S' : Store} {p : Addr}
theorem After.here (a : After K H g H' g' S) : After K H' g' H' g' S := ⟨Ext.refl, a.ok, a.cl, a.cells⟩
theorem CellOk.mon (e : Mon H g H' g') (ok : Gok H g) {a : Addr} {c : Cell} (h : CellOk K H g a c) (hk : H' a = H a) : CellOk K H' g' a c := by
  cases c with
  | lst ds => obtain ⟨xs, h1, h2⟩ := h; exact ⟨xs, by rw [hk]; exact h1, h2.mon e ok⟩
  | dct ks ds => obtain ⟨o, xs, h1, m, h3, h2⟩ := h; exact ⟨o, xs, by rw [hk]; exact h1, m, h3, h2.mon e ok⟩
theorem Gok.fresh_mu (ok : Gok H g) (hp : H p = none) : p ∉ g.μ := fun m => by
  obtain ⟨o, h, _⟩ := ok.mu p m
  rw [hp] at h; cases h
theorem Gok.fresh_F (ok : Gok H g) (hp : H p = none) : ¬ g.F p := fun f => by
  obtain ⟨⟨o, h⟩, _⟩ := ok.fz p f
  rw [hp] at h; cases h
theorem CellOk.ext (e : Ext H g H' g') (ok : Gok H g) {a : Addr} {c : Cell} (hk : H' a = H a) (h : CellOk K H g a c) : CellOk K H' g' a c := h.mon e.mon ok hk
/-- a new object that is not named among the frozen, the cells -/
theorem After.laid (a : After K H g H g S) (hp : H p = none) (o : HO) : After K H g (upd H p o) g S := by
  have ne : ∀ b u, H b = some u → b ≠ p := fun b u h q => by rw [q, hp] at h; cases h
  have e : Ext H g (upd H p o) g := ⟨fun _ h => h, ⟨[], by simp, by simp⟩, fun b u h _ => by rw [upd_ne (ne b u h)]; exact h, fun _ h => .inl h⟩
  refine ⟨e, ⟨fun b f => ?_, fun b m => ?_, a.ok.nd⟩, a.cl, fun l c h => ?_⟩
  · obtain ⟨⟨u, h⟩, n⟩ := a.ok.fz b f
    exact ⟨⟨u, by rw [upd_ne (ne b u h)]; exact h⟩, n⟩
  · obtain ⟨u, h, n⟩ := a.ok.mu b m
    exact ⟨u, by rw [upd_ne (ne b u h)]; exact h, n⟩
  · obtain ⟨b, h1, h2⟩ := a.cells l c h
    obtain ⟨u, h3, _⟩ := a.ok.mu b (List.mem_of_getElem? h1)
    exact ⟨b, h1, h2.ext e a.ok (upd_ne (ne b u h3))⟩
theorem new_tup (a : After K H g H g S) (hp : H p = none) {xs : List V} {ds : List D} (r : Reps K H g xs ds) : Rep K (upd H p (.tup xs)) g (.ref p) (.tup ds) := by
  rw [Rep]
  exact ⟨p, xs, rfl, .of upd_same, r.ext (a.laid hp _).ext a.ok⟩
/-- .. that is frozen -/
def Gh.freeze (g : Gh) (p : Addr) : Gh := ⟨fun a => g.F a ∨ a = p, g.μ⟩
theorem After.frozen (a : After K H g H g S) (hp : H p = none) (o : HO) : After K H g (upd H p o) (g.freeze p) S := by
  have b := a.laid (p := p) hp o
  have e : Ext H g (upd H p o) (g.freeze p) := ⟨fun _ h => .inl h, b.ext.mu, b.ext.keep, fun x h => by
    rcases h with h | h
    · exact .inl h
    · exact .inr (by rw [h]; exact hp)⟩
  refine ⟨e, ⟨fun x f => ?_, b.ok.mu, b.ok.nd⟩, b.cl, fun l c h => ?_⟩
  · rcases f with f | f
    · exact b.ok.fz x f
    · subst f
      exact ⟨⟨o, upd_same⟩, a.ok.fresh_mu hp⟩
  · obtain ⟨x, h1, h2⟩ := a.cells l c h
    obtain ⟨u, h3, _⟩ := a.ok.mu x (List.mem_of_getElem? h1)
    exact ⟨x, h1, h2.ext e a.ok (upd_ne fun q => by rw [q, hp] at h3; cases h3)⟩
theorem new_lst (a : After K H g H g S) (hp : H p = none) {xs : List V} {ds : List D} (r : Reps K H g xs ds) : Rep K (upd H p (.lst xs)) (g.freeze p) (.ref p) (.lst ds) := by
  rw [Rep]
  exact ⟨p, xs, rfl, .inl ⟨.of upd_same, .inr rfl⟩, r.ext (a.frozen hp _).ext a.ok⟩
/-- .. that is a cell -/
def Gh.cell (g : Gh) (p : Addr) : Gh := ⟨g.F, g.μ ++ [p]⟩
theorem After.celled (a : After K H g H g S) (hp : H p = none) {o : HO} {c : Cell} (m : MutO o) (hc : ∀ H' g', Ext H g H' g' → H' p = some o → CellOk K H' g' p c) : After K H g (upd H p o) (g.cell p) (S ++ [c]) := by
  have b := a.laid (p := p) hp o
  have e : Ext H g (upd H p o) (g.cell p) := ⟨fun _ h => h, ⟨[p], rfl, fun x h => (List.mem_singleton.mp h) ▸ hp⟩, b.ext.keep, fun x h => .inl h⟩
  refine ⟨e, ⟨fun x f => ⟨(b.ok.fz x f).1, fun q => ?_⟩, fun x q => ?_, ?_⟩, by rw [List.length_append, a.cl]; simp [Gh.cell], fun l d h => ?_⟩
  · rcases List.mem_append.mp q with q | q
    · exact (b.ok.fz x f).2 q
    · have z : x = p := by simpa using q
      rw [z] at f
      exact a.ok.fresh_F hp f
  · rcases List.mem_append.mp q with q | q
    · exact b.ok.mu x q
    · have z : x = p := by simpa using q
      rw [z]
      exact ⟨o, upd_same, m⟩
  · refine List.nodup_append.mpr ⟨a.ok.nd, by simp, fun x hx y hy => ?_⟩
    have z : y = p := by simpa using hy
    rw [z]
    rintro rfl
    exact a.ok.fresh_mu hp hx
  · by_cases hl : l < S.length
    · rw [List.getElem?_append_left hl] at h
      obtain ⟨x, h1, h2⟩ := a.cells l d h
      obtain ⟨u, h3, _⟩ := a.ok.mu x (List.mem_of_getElem? h1)
      refine ⟨x, ?_, h2.ext e a.ok (upd_ne fun q => by rw [q, hp] at h3; cases h3)⟩
      show (g.μ ++ [p])[l]? = some x
      rw [List.getElem?_append_left (by rw [← a.cl]; exact hl)]
      exact h1
    · have e1 : l = S.length := by
        have := (List.getElem?_eq_some_iff.mp h).1
        rw [List.length_append] at this
        simp at this
        omega
      subst e1
      rw [List.getElem?_append_right (Nat.le_refl _)] at h
      simp at h
      subst h
      refine ⟨p, ?_, hc _ _ e upd_same⟩
      show (g.μ ++ [p])[S.length]? = some p
      rw [List.getElem?_append_right (by rw [a.cl]; exact Nat.le_refl _), a.cl]
      simp
theorem rep_loc (a : After K H g H g S) : Rep K (upd H p (.lst [])) (g.cell p) (.ref p) (.loc S.length) := by
  rw [Rep]
  refine ⟨p, rfl, ?_⟩
  show (g.μ ++ [p])[S.length]? = some p
  rw [List.getElem?_append_right (by rw [a.cl]; exact Nat.le_refl _), a.cl]
  simp
theorem rep_loc' (a : After K H g H g S) {H'' : Hp} : Rep K H'' (g.cell p) (.ref p) (.loc S.length) := by
  rw [Rep]
  refine ⟨p, rfl, ?_⟩
  show (g.μ ++ [p])[S.length]? = some p
  rw [List.getElem?_append_right (by rw [a.cl]; exact Nat.le_refl _), a.cl]
  simp
theorem Rep.int_inv {v : V} {i : Int} (h : Rep K H g v (.int i)) : v = .int i := by rw [Rep] at h; exact h
theorem Rep.bl_inv {v : V} {i : Bool} (h : Rep K H g v (.bl i)) : v = .bl i := by rw [Rep] at h; exact h
theorem Rep.non_inv {v : V} (h : Rep K H g v .non) : v = .non := by rw [Rep] at h; exact h
theorem Rep.str_inv {v : V} {i : Str} (h : Rep K H g v (.str i)) : v = .str i := by rw [Rep] at h; exact h
theorem Rep.tup_inv {v : V} {ds : List D} (h : Rep K H g v (.tup ds)) : ∃ a xs, v = .ref a ∧ SqT K H a xs ∧ Reps K H g xs ds := by rw [Rep] at h; exact h
theorem rep_int {i : Int} : Rep K H g (.int i) (.int i) := by rw [Rep]
theorem rep_bl {i : Bool} : Rep K H g (.bl i) (.bl i) := by rw [Rep]
theorem rep_str {i : Str} : Rep K H g (.str i) (.str i) := by rw [Rep]
theorem rep_non : Rep K H g .non .non := by rw [Rep]
theorem rep_tup {a : Addr} {xs : List V} {ds : List D} (h : SqT K H a xs) (r : Reps K H g xs ds) : Rep K H g (.ref a) (.tup ds) := by rw [Rep]; exact ⟨a, xs, rfl, h, r⟩
theorem ScL.sq {a : Addr} {xs : List V} (h : ScL K H g a xs) : SqL K H a xs := by
  rcases h with ⟨h, _⟩ | h
  · exact .inl h
  · rcases h with (h | ⟨_, h⟩) | h
    · cases h
    · cases h
    · exact .inr h
theorem lst_at (a : After K H g H g S) {v : V} {d : D} {ds : List D} (r : Rep K H g v d) (h : lstOf d S = some ds) : ∃ p xs, v = .ref p ∧ ExL K H p xs ∧ Reps K H g xs ds := by
  cases d with
  | lst es =>
    cases h
    rw [Rep] at r
    obtain ⟨p, xs, e, h1, h2⟩ := r
    refine ⟨p, xs, e, ?_, h2⟩
    rcases h1 with ⟨h1, _⟩ | h1
    · exact .inl h1
    · exact .inr h1
  | loc l =>
    rw [Rep] at r
    obtain ⟨p, e, h1⟩ := r
    replace h : (match S[l]? with | some (.lst xs) => some xs | _ => none) = some ds := h
    cases q : S[l]? with
    | none => rw [q] at h; cases h
    | some c =>
      rw [q] at h
      cases c with
      | lst es =>
        cases h
        obtain ⟨p', h2, xs, h3, h4⟩ := a.cells l _ q
        rw [h1] at h2; cases h2
        exact ⟨p, xs, e, .inl (.of h3), h4⟩
      | dct _ _ => cases h
  | _ => cases h
theorem slc_at (a : After K H g H g S) {v : V} {d : D} {ds : List D} (r : Rep K H g v d) (h : slcOf d S = some ds) : ∃ p xs, v = .ref p ∧ SqL K H p xs ∧ Reps K H g xs ds := by
  unfold slcOf at h
  split at h
  · cases h
    rw [Rep] at r
    obtain ⟨p, xs, e, h1, h2⟩ := r
    exact ⟨p, xs, e, h1.sq, h2⟩
  · obtain ⟨p, xs, e, h1, h2⟩ := lst_at a r h
    exact ⟨p, xs, e, h1.sq, h2⟩
/-- the items of a list, a tuple, where they stand -/
theorem seq_at (a : After K H g H g S) {v : V} {d : D} {ds : List D} (r : Rep K H g v d) (h : seqOf d S = some ds) : ∃ p xs, v = .ref p ∧ (SqL K H p xs ∨ SqT K H p xs) ∧ Reps K H g xs ds := by
  cases d with
  | tup es =>
    cases h
    obtain ⟨p, xs, e, h1, h2⟩ := r.tup_inv
    exact ⟨p, xs, e, .inr h1, h2⟩
  | lst es =>
    obtain ⟨p, xs, e, h1, h2⟩ := lst_at a r (show lstOf (.lst es) S = some ds from h)
    exact ⟨p, xs, e, .inl h1.sq, h2⟩
  | loc l =>
    obtain ⟨p, xs, e, h1, h2⟩ := lst_at a r (show lstOf (.loc l) S = some ds from h)
    exact ⟨p, xs, e, .inl h1.sq, h2⟩
  | scr es =>
    obtain ⟨p, xs, e, h1, h2⟩ := slc_at a r (show slcOf (.scr es) S = some ds from h)
    exact ⟨p, xs, e, .inl h1, h2⟩
  | _ => cases h
end

/-! ### arithmetic -/
section
variable {K : Frag}
theorem opD_int {C : Int → Int → Prop} {f : Int → Int → Int} {h : D → D → Store → Option D} (hd : ∀ d e S z, h d e S = some z → ∃ i j, d = .int i ∧ e = .int j ∧ C i j ∧ z = .int (f i j)) :
    OpD K (rI C fun i j => .int (f i j)) h := by
  intro H g S x y d e z Q a rx ry hz k
  obtain ⟨i, j, rfl, rfl, hc, rfl⟩ := hd d e S z hz
  exact ⟨i, j, rx.int_inv, ry.int_inv, hc, k H g _ a rep_int⟩
theorem opD_sub : OpD K (rI0 fun i j => .int (i - j)) subD := by
  intro H g S x y d e z Q a rx ry hz k
  unfold subD at hz
  split at hz
  · cases hz; exact ⟨_, _, rx.int_inv, ry.int_inv, k H g _ a rep_int⟩
  · cases hz
theorem opD_fdiv : OpD K (rI CDivW fun i j => .int (i / j)) fdivD := opD_int fun d e S z h => by
  unfold fdivD at h
  split at h
  · split at h
    · rename_i q
      cases h
      unfold divOk at q
      exact ⟨_, _, rfl, rfl, by simpa [CDivW] using q, rfl⟩
    · cases h
  · cases h
theorem opD_mod : OpD K (rI (fun _ j => 0 < j) fun i j => .int (i % j)) modD := opD_int fun d e S z h => by
  unfold modD at h
  split at h
  · split at h
    · rename_i q; cases h; exact ⟨_, _, rfl, rfl, q, rfl⟩
    · cases h
  · cases h
theorem opD_pow : OpD K (rI CPow fun i j => .int (i ^ j.toNat)) powD := opD_int fun d e S z h => by
  unfold powD at h
  split at h
  · split at h
    · rename_i q
      cases h
      unfold powOk at q
      simp only [Bool.and_eq_true, decide_eq_true_eq] at q
      exact ⟨_, _, rfl, rfl, ⟨q.1.1, q.1.2, q.2⟩, rfl⟩
    · cases h
  · cases h
def rStrCat : R2 := fun x y H Q => ∃ i j, x = .str i ∧ y = .str j ∧ i.length + j.length ≤ sizeLine ∧ Q (.str (i ++ j)) H
def rAddAll (K : Frag) : R2 := fun x y H Q => (rI0 (fun i j => .int (i + j)) x y H Q ∨ rStrCat x y H Q) ∨ rCatA K x y H Q
theorem op_addAll {X : L2.Cx} : OpR X (binaryOp .Add) (rAddAll X.K) := OpR.or (OpR.or op_add op_add_str) op_catA
theorem opD_add : OpD K (rAddAll K) addD := by
  intro H g S x y d e z Q a rx ry hz k
  unfold addD at hz
  split at hz
  · cases hz; exact .inl (.inl ⟨_, _, rx.int_inv, ry.int_inv, k H g _ a rep_int⟩)
  · split at hz
    · rename_i q
      cases hz
      exact .inl (.inr ⟨_, _, rx.str_inv, ry.str_inv, by rw [line_eq]; exact q, k H g _ a rep_str⟩)
    · cases hz
  · split at hz
    · rename_i xs ys q
      cases hz
      obtain ⟨p, us, rfl, h1, r1⟩ := rx.tup_inv
      obtain ⟨p', ws, rfl, h2, r2⟩ := ry.tup_inv
      refine .inr ⟨p, p', us, ws, rfl, rfl, h1, h2, by rw [line_eq, r1.length, r2.length]; exact q, fun e => ?_, fun _ e => ?_, fun _ _ p2 hp => ?_⟩
      · subst e
        have e2 : xs = [] := r1.nil_inv
        subst e2
        exact k H g _ a ry
      · subst e
        have e2 : ys = [] := r2.nil_inv
        subst e2
        rw [List.append_nil] at k
        exact k H g _ a rx
      · exact k _ _ _ (a.laid hp _) (new_tup a hp (r1.append r2))
    · cases hz
  · cases hz
end
end Mini

set_option maxHeartbeats 4000000
/-! MINI, part 5: rules that the hand layer lacks. -/
namespace L2
open PySem PySem.Spec PyProof.Rows
/-! ### tuple * int, any -/
theorem tuple_mul1 (l : Addr) (items : Array Value) (n : Nat) (dd : Option Addr) (sl : Array (Option Value)) (x : Int) (u : Tok) (c0 : (decide (x < -(2 ^ 63)) || decide (x ≥ 2 ^ 63)) = false) (c1 : (items.isEmpty || x == 1) = true) :
    Meets (Builtin.«tuple.__mul__» ⟨[.ref l, .int x u], []⟩) (fun _ R s => s.heap.get? l = some { cls := .type "tuple", dict := dd, data := .seq items n, slots := sl } ∧
      R (.ok (.ret (Value.ref l))) s) :=
  .of_wp fun prog w A R s h => by
    obtain ⟨hp, g, d, tk, os⟩ := s
    obtain ⟨hl, h⟩ := h
    have f1 := AutoSeq1.idx_int
    wp_walk using wpAny_loadPart' hl
    repeat (first
      | (refine wpAny_ite_false (decide_eq_false (by rw [c0]; exact Bool.false_ne_true)) ?_; wp_walk using wpAny_loadPart' hl)
      | (refine wpAny_ite_true (decide_eq_true c1) ?_; wp_walk using wpAny_loadPart' hl))
    exact ⟨_, rfl, h⟩
theorem tuple_mul0 (l : Addr) (items : Array Value) (n : Nat) (dd : Option Addr) (sl : Array (Option Value)) (x : Int) (u : Tok) (c0 : (decide (x < -(2 ^ 63)) || decide (x ≥ 2 ^ 63)) = false) (c1 : (items.isEmpty || x == 1) = false) (c2 : (decide (x ≤ 0) || items.isEmpty) = true) :
    Meets (Builtin.«tuple.__mul__» ⟨[.ref l, .int x u], []⟩) (fun _ R s => s.heap.get? l = some { cls := .type "tuple", dict := dd, data := .seq items n, slots := sl } ∧
      R (.ok (.ret (Value.ref s.heap.objs.size))) { s with heap := s.heap.push { cls := Value.type "tuple", data := Data.seq #[] }, toks := s.toks }) :=
  .of_wp fun prog w A R s h => by
    obtain ⟨hp, g, d, tk, os⟩ := s
    obtain ⟨hl, h⟩ := h
    have f1 := AutoSeq1.idx_int
    wp_walk using wpAny_loadPart' hl
    repeat (first
      | (refine wpAny_ite_false (decide_eq_false (by rw [c0]; exact Bool.false_ne_true)) ?_; wp_walk using wpAny_loadPart' hl)
      | (refine wpAny_ite_false (decide_eq_false (by rw [c1]; exact Bool.false_ne_true)) ?_; wp_walk using wpAny_loadPart' hl)
      | (refine wpAny_ite_true (decide_eq_true c2) ?_; wp_walk using wpAny_loadPart' hl))
    exact ⟨_, rfl, h⟩
def rMulA (K : PySem.W.Frag) : R2 := fun x y H Q => ∃ l k xs, x = .ref l ∧ y = .int k ∧ SqT K H l xs ∧ -1000000000 < k ∧ k < 1000000000 ∧ xs.length * k.toNat ≤ 16777216 ∧ (xs = [] ∨ k = 1 → Q (.ref l) H) ∧
  (xs ≠ [] → k ≠ 1 → ∀ p, H p = none → Q (.ref p) (upd H p (.tup (List.replicate k.toNat xs).flatten)))
theorem op_mulA {X : L2.Cx} : OpR X (binaryOp .Mult) (rMulA X.K) := by
  intro pins s σ H x y v u Q I rx ry h
  obtain ⟨l, k, xs, rfl, rfl, hT, k0, k1, hsz, q1, q2⟩ := h
  cases rx
  obtain ⟨t, rfl⟩ := ry
  obtain ⟨its, r, ⟨⟨cls, dd, data, sl⟩, ho, hc, n, hd⟩, hs⟩ := I.tuple hT
  simp only at hc hd
  subst hc hd
  have hle : its.length = xs.length := r.length.symm
  have hsz0 : its.toArray.size = xs.length := by rw [List.size_toArray, hle]
  have c0 : (decide (k < -(2 ^ 63)) || decide (k ≥ 2 ^ 63)) = false := by
    rw [decide_eq_false (by omega), decide_eq_false (by omega)] <;> rfl
  have go : ∀ {R : Value → Shared → Prop} (m : codeAny (model X.prog X.w) X.A.in1 (.builtin "tuple.__mul__" ⟨[.ref l, .int k t], []⟩) (fun r s' => match r with | .ok (.ret v) => R v s' | _ => False) s), True := fun _ => trivial
  by_cases e1 : (its.toArray.isEmpty || k == 1) = true
  · refine wpAny_binaryOp_repeat_ref (T := "tuple") (U := "int") (by decide) ⟨_, ho, rfl⟩ (fun s' => typeIs_int s' k t) noFill_tuple_mul F.fills_int_mul F.slot_int_rmul repeat_tuple F.slot_int_index.lookup
      (call_meets F.slot_int_rmul (typeIs_int s k t) F.entry_int_rmul (F.args_int_rmul_2 _ _) (int_rmul_tuple k t l its.toArray n dd sl)
        ⟨ho, rfl, ⟨_, ho, rfl⟩, call_meets F.slot_tuple_mul ⟨_, ho, rfl⟩ F.entry_tuple_mul (F.args_tuple_mul_2 _ _) (tuple_mul1 l its.toArray n dd sl k t c0 e1) ⟨ho, ?_⟩⟩)
    refine ⟨.ref l, H, I, rfl, q1 ?_⟩
    rcases Bool.or_eq_true_iff.mp e1 with e | e
    · left
      have : its = [] := by simpa using e
      rw [this] at hle
      exact List.eq_nil_of_length_eq_zero hle.symm
    · right; simpa using e
  · have e1' : (its.toArray.isEmpty || k == 1) = false := by simpa using e1
    have ne : xs ≠ [] := fun e => by
      rw [e] at hle
      have : its = [] := List.eq_nil_of_length_eq_zero hle
      rw [this] at e1'
      cases e1'
    have n1 : k ≠ 1 := fun e => by rw [e] at e1'; simp at e1'
    have hi : its.toArray.isEmpty = false := (Bool.or_eq_false_iff.mp e1').1
    by_cases e2 : k ≤ 0
    · refine wpAny_binaryOp_repeat_ref (T := "tuple") (U := "int") (by decide) ⟨_, ho, rfl⟩ (fun s' => typeIs_int s' k t) noFill_tuple_mul F.fills_int_mul F.slot_int_rmul repeat_tuple F.slot_int_index.lookup
        (call_meets F.slot_int_rmul (typeIs_int s k t) F.entry_int_rmul (F.args_int_rmul_2 _ _) (int_rmul_tuple k t l its.toArray n dd sl)
          ⟨ho, rfl, ⟨_, ho, rfl⟩, call_meets F.slot_tuple_mul ⟨_, ho, rfl⟩ F.entry_tuple_mul (F.args_tuple_mul_2 _ _) (tuple_mul0 l its.toArray n dd sl k t c0 e1' (by rw [decide_eq_true e2, Bool.true_or])) ⟨ho, ?_⟩⟩)
      have e3 : (List.replicate k.toNat xs).flatten = [] := by rw [Int.toNat_of_nonpos e2]; rfl
      have q3 := q2 ne n1 s.heap.objs.size (I.hok.fresh (Nat.le_refl _))
      rw [e3] at q3
      refine ⟨.ref s.heap.objs.size, _, I.laid (t' := s.toks) (o := .tup []) (fun b ob q => Heap.get?_push_of_some _ q) (Nat.le_refl _) ?_, rfl, q3⟩
      exact ⟨Nat.zero_le _, [], .nil, IsTup.new _ _⟩
    · have flen : (List.replicate k.toNat its).flatten.length ≤ sizeLine := by
        rw [PyProof.Rows.lm_len_rep_flat, hle, sizeLine_eq, Nat.mul_comm]
        exact hsz
      have hm : ((its.toArray.size : Nat) : Int) * k ≤ 16777216 := by
        rw [hsz0]
        have e4 : ((xs.length : Nat) : Int) * k = ((xs.length * k.toNat : Nat) : Int) := by rw [Int.natCast_mul, Int.toNat_of_nonneg (by omega)]
        rw [e4]
        exact Int.ofNat_le.mpr hsz
      have c4 : Builtin.Tuple.tupleTooMany (((its.toArray.size : Nat) : Int) * k) = false := by
        unfold Builtin.Tuple.tupleTooMany
        rw [sizeLine_eq]
        exact decide_eq_false (by omega)
      refine wpAny_binaryOp_repeat_ref (T := "tuple") (U := "int") (by decide) ⟨_, ho, rfl⟩ (fun s' => typeIs_int s' k t) noFill_tuple_mul F.fills_int_mul F.slot_int_rmul repeat_tuple F.slot_int_index.lookup
        (call_meets F.slot_int_rmul (typeIs_int s k t) F.entry_int_rmul (F.args_int_rmul_2 _ _) (int_rmul_tuple k t l its.toArray n dd sl)
          ⟨ho, rfl, ⟨_, ho, rfl⟩, call_meets F.slot_tuple_mul ⟨_, ho, rfl⟩ F.entry_tuple_mul (F.args_tuple_mul_2 _ _) (tuple_mulW l its.toArray n dd sl k t c0 e1' (by rw [hi, Bool.or_false]; exact decide_eq_false (by omega)) (by omega) c4 (by rw [size_rep, List.size_toArray]; exact flen)) ⟨ho, ?_⟩⟩)
      rw [size_rep]
      refine ⟨.ref s.heap.objs.size, _, I.laid (t' := s.toks) (o := .tup (List.replicate k.toNat xs).flatten) (fun b ob q => Heap.get?_push_of_some _ q) (Nat.le_refl _) ?_, rfl, q2 ne n1 _ (I.hok.fresh (Nat.le_refl _))⟩
      exact ⟨by rw [PyProof.Rows.lm_len_rep_flat, sizeLine_eq, Nat.mul_comm]; exact hsz, _, r.rep k.toNat, IsTup.new _ _⟩
/-! ### data: ==, <, in -/
section
variable {X : L2.Cx}
def rDat (K : PySem.W.Frag) (C : PyData → PyData → Prop) (f : PyData → PyData → Bool) : R2 := fun x y H Q => ∃ d e, Dp K H x d ∧ Dp K H y e ∧ d.plain = true ∧ e.plain = true ∧ d.depth ≤ 62 ∧ e.depth ≤ 62 ∧ C d e ∧ Q (.bl (f d e)) H
theorem op_dat {op : CmpOp} {C : PyData → PyData → Prop} {f : PyData → PyData → Bool} (hu : X.A.units + 64 < cLine)
    (rule : ∀ (s : Shared) (u v : Value) (d e : PyData) (as bs : List Addr) (Q : Value → Shared → Prop), Reads s.heap u d as → Reads s.heap v e bs → d.plain = true → e.plain = true → d.depth ≤ 62 → e.depth ≤ 62 → C d e → Q (.bool (f d e)) s →
      wpAny (model X.prog X.w) X.A (compareOp op u v) Q X.xe s) : OpR X (compareOp op) (rDat X.K C f) := by
  intro pins s σ H x y v u Q I rx ry h
  obtain ⟨d, e, hd, he, p1, p2, z1, z2, c, q⟩ := h
  obtain ⟨as, r1⟩ := Dp.reads I d x v hd rx
  obtain ⟨bs, r2⟩ := Dp.reads I e y u he ry
  exact rule s v u d e as bs _ r1 r2 p1 p2 z1 z2 c ⟨.bl _, H, I, rfl, q⟩
def CT_ : PyData → PyData → Prop := fun _ _ => True
def CAl : PyData → PyData → Prop := fun d e => PySem.W.alike d e = true ∧ d ≠ .none
theorem op_eqP (hu : X.A.units + 64 < cLine) : OpR X (compareOp .Eq) (rDat X.K CT_ PyData.eqv) := op_dat hu fun s u v d e as bs Q r1 r2 p1 p2 z1 z2 _ q => PySem.SeqAt.eq_plain r1 r2 p1 p2 (by omega) q
theorem op_neP (hu : X.A.units + 64 < cLine) : OpR X (compareOp .NotEq) (rDat X.K CT_ fun d e => !PyData.eqv d e) := op_dat hu fun s u v d e as bs Q r1 r2 p1 p2 z1 z2 _ q => PySem.SeqAt.ne_plain r1 r2 p1 p2 (by omega) q
theorem op_ltP (hu : X.A.units + 64 < cLine) : OpR X (compareOp .Lt) (rDat X.K CAl PySem.W.dataLt) := op_dat hu fun s u v d e as bs Q r1 r2 p1 p2 z1 z2 c q => PySem.W.lt_data r1 r2 c.1 c.2 (by omega) q
theorem op_gtP (hu : X.A.units + 64 < cLine) : OpR X (compareOp .Gt) (rDat X.K CAl fun d e => PySem.W.dataLt e d) := op_dat hu fun s u v d e as bs Q r1 r2 p1 p2 z1 z2 c q => PySem.W.gt_data r1 r2 c.1 c.2 (by omega) q
theorem op_leP (hu : X.A.units + 64 < cLine) : OpR X (compareOp .LtE) (rDat X.K CAl fun d e => !PySem.W.dataLt e d) := op_dat hu fun s u v d e as bs Q r1 r2 p1 p2 z1 z2 c q => PySem.W.le_data r1 r2 c.1 c.2 (by omega) q
theorem op_geP (hu : X.A.units + 64 < cLine) : OpR X (compareOp .GtE) (rDat X.K CAl fun d e => !PySem.W.dataLt d e) := op_dat hu fun s u v d e as bs Q r1 r2 p1 p2 z1 z2 c q => PySem.W.ge_data r1 r2 c.1 c.2 (by omega) q
def CSq : PyData → PyData → Prop := fun _ e => (∃ xs, e = .list xs) ∨ ∃ xs, e = .tuple xs
def inPd (d e : PyData) : Bool := match e with
  | .list xs => xs.any fun y => PyData.eqv y d
  | .tuple xs => xs.any fun y => PyData.eqv y d
  | _ => false
theorem plainAll_l {xs : List PyData} (h : (PyData.list xs).plain = true) : PyData.plainAll xs = true := by rw [PyData.plain] at h; exact h
theorem plainAll_t {xs : List PyData} (h : (PyData.tuple xs).plain = true) : PyData.plainAll xs = true := by rw [PyData.plain] at h; exact h
theorem op_inP (hu : X.A.units + 64 < cLine) : OpR X (compareOp .In) (rDat X.K CSq inPd) := op_dat hu fun s u v d e as bs Q r1 r2 p1 p2 z1 z2 c q => by
  rcases c with ⟨xs, rfl⟩ | ⟨xs, rfl⟩
  · exact PySem.SeqAt.in_list_data r2 r1 (plainAll_l p2) p1 (by omega) q
  · exact PySem.SeqAt.in_tuple_data r2 r1 (plainAll_t p2) p1 (by omega) q
theorem op_notInP (hu : X.A.units + 64 < cLine) : OpR X (compareOp .NotIn) (rDat X.K CSq fun d e => !inPd d e) := op_dat hu fun s u v d e as bs Q r1 r2 p1 p2 z1 z2 c q => by
  rcases c with ⟨xs, rfl⟩ | ⟨xs, rfl⟩
  · exact PySem.SeqAt.notIn_list_data r2 r1 (plainAll_l p2) p1 (by omega) q
  · exact PySem.SeqAt.notIn_tuple_data r2 r1 (plainAll_t p2) p1 (by omega) q
end
end L2
namespace Mini
open PySem PySem.Spec PyProof.Rows L2
variable {K : Frag}
def rMulAll (K : Frag) : R2 := fun x y H Q => rI CMulW (fun i j => .int (i * j)) x y H Q ∨ rMulA K x y H Q
theorem op_mulAll {X : L2.Cx} : OpR X (binaryOp .Mult) (rMulAll X.K) := OpR.or op_mulW op_mulA
theorem opD_mul : OpD K (rMulAll K) mulD := by
  intro H g S x y d e z Q a rx ry hz k
  unfold mulD at hz
  split at hz
  · split at hz
    · rename_i q
      cases hz
      unfold mulOk at q
      exact .inl ⟨_, _, rx.int_inv, ry.int_inv, by simpa [CMulW] using q, k H g _ a rep_int⟩
    · cases hz
  · rename_i xs kk
    split at hz
    · rename_i q
      cases hz
      obtain ⟨p, us, rfl, h1, r1⟩ := rx.tup_inv
      refine .inr ⟨p, kk, us, rfl, ry.int_inv, h1, q.1, q.2.1, by rw [r1.length]; exact q.2.2, fun e => ?_, fun ne n1 p2 hp => k _ _ _ (a.laid hp _) (new_tup a hp (r1.rep _))⟩
      have e2 : repL xs kk.toNat = xs := by
        rcases e with e | e
        · subst e
          have e2 : xs = [] := r1.nil_inv
          subst e2
          unfold repL
          simp
        · subst e
          simp [repL]
      rw [e2] at k
      exact k H g _ a rx
    · cases hz
  · cases hz
end Mini

set_option maxHeartbeats 4000000
/-! MINI, part 6: comparisons, truth, and, or, not. -/
namespace Mini
open PySem PySem.Spec PyProof.Rows L2
section
variable {K : Frag} {H : Hp} {g : Gh} {S : Store}
theorem plain_tup {n : Nat} {xs : List D} (h : plain n (.tup xs) = true) : ∃ m, n = m + 1 ∧ xs.all (plain m) = true := by
  cases n with
  | zero => simp [plain] at h
  | succ m => exact ⟨m, rfl, by simpa [plain] using h⟩
theorem plain_lst {n : Nat} {xs : List D} (h : plain n (.lst xs) = true) : ∃ m, n = m + 1 ∧ xs.all (plain m) = true := by
  cases n with
  | zero => simp [plain] at h
  | succ m => exact ⟨m, rfl, by simpa [plain] using h⟩
theorem dpAll_of {n : Nat} (ih : ∀ (d : D) (v : V), plain n d = true → Rep K H g v d → Dp K H v (pd d)) : ∀ (xs : List V) (ds : List D), ds.all (plain n) = true → Reps K H g xs ds → DpAll K H xs (ds.map pd)
  | [], ds, h, r => by rw [r.nil_inv]; exact .nil
  | v :: vs, [], h, r => by rw [Reps] at r; cases r
  | v :: vs, d :: ds, h, r => by
    rw [List.all_cons, Bool.and_eq_true] at h
    exact .cons (ih d v h.1 r.inv.1) (dpAll_of ih vs ds h.2 r.inv.2)
theorem dp_of : ∀ (n : Nat) (d : D) (v : V), plain n d = true → Rep K H g v d → Dp K H v (pd d) := by
  intro n
  induction n with
  | zero =>
    intro d v h r
    cases d with
    | non => rw [r.non_inv, pd]; exact .non
    | bl b => rw [r.bl_inv, pd]; exact .bl b
    | int b => rw [r.int_inv, pd]; exact .int b
    | str b => rw [r.str_inv, pd]; exact .str b
    | _ => simp [plain] at h
  | succ n ih =>
    intro d v h r
    cases d with
    | non => rw [r.non_inv, pd]; exact .non
    | bl b => rw [r.bl_inv, pd]; exact .bl b
    | int b => rw [r.int_inv, pd]; exact .int b
    | str b => rw [r.str_inv, pd]; exact .str b
    | tup ds =>
      obtain ⟨a, xs, rfl, h1, h2⟩ := r.tup_inv
      rw [pd]
      exact .tup h1 (dpAll_of ih xs ds (by simpa [plain] using h) h2)
    | lst ds =>
      rw [Rep] at r
      obtain ⟨a, xs, rfl, h1, h2⟩ := r
      rw [pd]
      refine .lst ?_ (dpAll_of ih xs ds (by simpa [plain] using h) h2)
      rcases h1 with ⟨h1, _⟩ | h1
      · exact .inl h1
      · exact ExL.sq (H := H) (.inr h1)
    | _ => simp [plain] at h
theorem plainAll_of {f : D → Bool} (ih : ∀ d, f d = true → (pd d).plain = true) : ∀ ds : List D, ds.all f = true → PyData.plainAll (ds.map pd) = true
  | [], _ => by rw [List.map_nil, PyData.plainAll]
  | d :: ds, h => by
    rw [List.all_cons, Bool.and_eq_true] at h
    rw [List.map_cons, PyData.plainAll, ih d h.1, plainAll_of ih ds h.2]
    rfl
theorem depthAll_of {f : D → Bool} {n : Nat} (ih : ∀ d, f d = true → (pd d).depth ≤ n) : ∀ ds : List D, ds.all f = true → PyData.depthAll (ds.map pd) ≤ n
  | [], _ => Nat.zero_le _
  | d :: ds, h => by
    rw [List.all_cons, Bool.and_eq_true] at h
    show max (pd d).depth (PyData.depthAll (ds.map pd)) ≤ n
    exact Nat.max_le.mpr ⟨ih d h.1, depthAll_of ih ds h.2⟩
theorem plain_pd : ∀ (n : Nat) (d : D), plain n d = true → (pd d).plain = true ∧ (pd d).depth ≤ n := by
  intro n
  induction n with
  | zero =>
    intro d h
    cases d with
    | non => rw [pd]; exact ⟨by rw [PyData.plain], Nat.le_refl _⟩
    | bl b => rw [pd]; exact ⟨by rw [PyData.plain], Nat.le_refl _⟩
    | int b => rw [pd]; exact ⟨by rw [PyData.plain], Nat.le_refl _⟩
    | str b => rw [pd]; exact ⟨by rw [PyData.plain], Nat.le_refl _⟩
    | _ => simp [plain] at h
  | succ n ih =>
    intro d h
    cases d with
    | non => rw [pd]; exact ⟨by rw [PyData.plain], Nat.zero_le _⟩
    | bl b => rw [pd]; exact ⟨by rw [PyData.plain], Nat.zero_le _⟩
    | int b => rw [pd]; exact ⟨by rw [PyData.plain], Nat.zero_le _⟩
    | str b => rw [pd]; exact ⟨by rw [PyData.plain], Nat.zero_le _⟩
    | tup ds =>
      rw [pd]
      have q : ds.all (plain n) = true := by simpa [plain] using h
      exact ⟨by rw [PyData.plain]; exact plainAll_of (fun d h => (ih d h).1) ds q, Nat.succ_le_succ (depthAll_of (fun d h => (ih d h).2) ds q)⟩
    | lst ds =>
      rw [pd]
      have q : ds.all (plain n) = true := by simpa [plain] using h
      exact ⟨by rw [PyData.plain]; exact plainAll_of (fun d h => (ih d h).1) ds q, Nat.succ_le_succ (depthAll_of (fun d h => (ih d h).2) ds q)⟩
    | _ => simp [plain] at h
/-- the value of d where it stands, as data -/
theorem dp_rd (a : After K H g H g S) {v : V} {d : D} {n : Nat} (r : Rep K H g v d) (h : plain n (rd d S) = true) : Dp K H v (pd (rd d S)) := by
  cases d with
  | loc l =>
    have r' := r
    rw [Rep] at r'
    obtain ⟨p, e, h1⟩ := r'
    cases q : S[l]? with
    | none =>
      have e2 : rd (.loc l) S = .loc l := by show (match S[l]? with | some (.lst xs) => D.lst xs | _ => .loc l) = _; rw [q]
      rw [e2] at h
      cases n <;> simp [plain] at h
    | some c =>
      cases c with
      | lst es =>
        have e2 : rd (.loc l) S = .lst es := by show (match S[l]? with | some (.lst xs) => D.lst xs | _ => .loc l) = _; rw [q]
        rw [e2] at h ⊢
        obtain ⟨p', h2, xs, h3, h4⟩ := a.cells l _ q
        rw [h1] at h2; cases h2
        obtain ⟨m, rfl, hm⟩ := plain_lst h
        rw [e, pd]
        exact .lst (.of h3) (dpAll_of (dp_of m) xs es hm h4)
      | dct ks vs =>
        have e2 : rd (.loc l) S = .loc l := by show (match S[l]? with | some (.lst xs) => D.lst xs | _ => .loc l) = _; rw [q]
        rw [e2] at h
        cases n <;> simp [plain] at h
  | _ => exact dp_of n _ v h r
theorem eqv_some {x y : D} {z : Bool} (h : eqv x y = some z) : plain 40 x = true ∧ plain 40 y = true ∧ z = PyData.eqv (pd x) (pd y) := by
  unfold eqv at h
  split at h
  · rename_i q
    cases h
    rw [Bool.and_eq_true] at q
    exact ⟨q.1, q.2, rfl⟩
  · cases h
theorem dep62 {d : D} (h : plain 40 d = true) : (pd d).depth ≤ 62 := Nat.le_trans (plain_pd 40 d h).2 (by decide)
theorem opB_eq : OpB K (rDat K CT_ PyData.eqv) eqD := by
  intro H g S x y d e z Q a rx ry hz q
  obtain ⟨h1, h2, rfl⟩ := eqv_some hz
  exact ⟨_, _, dp_rd a rx h1, dp_rd a ry h2, (plain_pd 40 _ h1).1, (plain_pd 40 _ h2).1, dep62 h1, dep62 h2, trivial, q⟩
theorem opB_ne : OpB K (rDat K CT_ fun d e => !PyData.eqv d e) (fun x y S => (eqD x y S).map not) := by
  intro H g S x y d e z Q a rx ry hz q
  obtain ⟨z', hz', rfl⟩ := Option.map_eq_some_iff.mp hz
  obtain ⟨h1, h2, rfl⟩ := eqv_some hz'
  exact ⟨_, _, dp_rd a rx h1, dp_rd a ry h2, (plain_pd 40 _ h1).1, (plain_pd 40 _ h2).1, dep62 h1, dep62 h2, trivial, q⟩
theorem ordOk_some {x y : D} (h : ordOk x y = true) : plain 40 x = true ∧ plain 40 y = true ∧ CAl (pd x) (pd y) := by
  unfold ordOk at h
  rw [Bool.and_eq_true, Bool.and_eq_true, Bool.and_eq_true] at h
  obtain ⟨⟨⟨h1, h2⟩, h3⟩, h4⟩ := h
  refine ⟨h1, h2, h3, fun e => ?_⟩
  cases x with
  | non => cases h4
  | dct _ _ => simp [plain] at h1
  | scr _ => simp [plain] at h1
  | loc _ => simp [plain] at h1
  | bl _ => rw [pd] at e; cases e
  | int _ => rw [pd] at e; cases e
  | str _ => rw [pd] at e; cases e
  | tup _ => rw [pd] at e; cases e
  | lst _ => rw [pd] at e; cases e
/-- ints, or alike data -/
def rOrd (K : Frag) (f : Int → Int → Bool) (h : PyData → PyData → Bool) : R2 := fun x y H Q => rI0 (fun i j => .bl (f i j)) x y H Q ∨ rDat K CAl h x y H Q
theorem opB_ord {f : Int → Int → Bool} {h : PyData → PyData → Bool} {m : D → D → Option Bool} (hm : ∀ d e z, m d e = some z → (∃ i j, d = .int i ∧ e = .int j ∧ z = f i j) ∨ (ordOk d e = true ∧ z = h (pd d) (pd e))) :
    OpB K (rOrd K f h) (fun x y _ => m x y) := by
  intro H g S x y d e z Q a rx ry hz q
  rcases hm d e z hz with ⟨i, j, rfl, rfl, rfl⟩ | ⟨ho, rfl⟩
  · exact .inl ⟨i, j, rx.int_inv, ry.int_inv, q⟩
  · obtain ⟨h1, h2, c⟩ := ordOk_some ho
    exact .inr ⟨_, _, dp_of 40 d x h1 rx, dp_of 40 e y h2 ry, (plain_pd 40 _ h1).1, (plain_pd 40 _ h2).1, dep62 h1, dep62 h2, c, q⟩
theorem opB_lt : OpB K (rOrd K (fun i j => decide (i < j)) PySem.W.dataLt) (fun x y _ => ltD x y) := opB_ord fun d e z h => by
  unfold ltD at h
  split at h
  · cases h; exact .inl ⟨_, _, rfl, rfl, rfl⟩
  · split at h
    · rename_i q; cases h; exact .inr ⟨q, rfl⟩
    · cases h
theorem opB_le : OpB K (rOrd K (fun i j => decide (i ≤ j)) fun d e => !PySem.W.dataLt e d) (fun x y _ => leD x y) := opB_ord fun d e z h => by
  unfold leD at h
  split at h
  · cases h; exact .inl ⟨_, _, rfl, rfl, rfl⟩
  · split at h
    · rename_i q; cases h; exact .inr ⟨q, rfl⟩
    · cases h
theorem opB_gt : OpB K (rOrd K (fun i j => decide (j < i)) fun d e => PySem.W.dataLt e d) (fun x y _ => gtD x y) := opB_ord fun d e z h => by
  unfold gtD at h
  split at h
  · cases h; exact .inl ⟨_, _, rfl, rfl, rfl⟩
  · split at h
    · rename_i q; cases h; exact .inr ⟨q, rfl⟩
    · cases h
theorem opB_ge : OpB K (rOrd K (fun i j => decide (j ≤ i)) fun d e => !PySem.W.dataLt d e) (fun x y _ => geD x y) := opB_ord fun d e z h => by
  unfold geD at h
  split at h
  · cases h; exact .inl ⟨_, _, rfl, rfl, rfl⟩
  · split at h
    · rename_i q; cases h; exact .inr ⟨q, rfl⟩
    · cases h
theorem op_ltA {X : L2.Cx} (hu : X.A.units + 64 < cLine) : OpR X (compareOp .Lt) (rOrd X.K (fun i j => decide (i < j)) PySem.W.dataLt) := OpR.or op_lt (op_ltP hu)
theorem op_leA {X : L2.Cx} (hu : X.A.units + 64 < cLine) : OpR X (compareOp .LtE) (rOrd X.K (fun i j => decide (i ≤ j)) fun d e => !PySem.W.dataLt e d) := OpR.or op_le (op_leP hu)
theorem op_gtA {X : L2.Cx} (hu : X.A.units + 64 < cLine) : OpR X (compareOp .Gt) (rOrd X.K (fun i j => decide (j < i)) fun d e => PySem.W.dataLt e d) := OpR.or op_gt (op_gtP hu)
theorem op_geA {X : L2.Cx} (hu : X.A.units + 64 < cLine) : OpR X (compareOp .GtE) (rOrd X.K (fun i j => decide (j ≤ i)) fun d e => !PySem.W.dataLt d e) := OpR.or op_ge (op_geP hu)
/-- in: a text in a text, data in a list, a tuple -/
def rInAll (K : Frag) (neg : Bool) : R2 := fun x y H Q => (∃ i j, x = .str i ∧ y = .str j ∧ Q (.bl (cond neg (!(!(Builtin.Str.occurrences j i 0 j.length 1).isEmpty)) (!(Builtin.Str.occurrences j i 0 j.length 1).isEmpty))) H) ∨ rDat K CSq (fun d e => cond neg (!inPd d e) (inPd d e)) x y H Q
theorem op_inA {X : L2.Cx} (hu : X.A.units + 64 < cLine) : OpR X (compareOp .In) (rInAll X.K false) := OpR.or op_in_str (op_inP hu)
theorem op_notInA {X : L2.Cx} (hu : X.A.units + 64 < cLine) : OpR X (compareOp .NotIn) (rInAll X.K true) := OpR.or op_notin_str (op_notInP hu)
/-- a list or a tuple where it stands, as data -/
theorem dp_seq (a : After K H g H g S) {v : V} {d : D} {ds : List D} (r : Rep K H g v d) (h : seqOf d S = some ds) (p : ds.all (plain 40) = true) : ∃ e, Dp K H v e ∧ e.plain = true ∧ e.depth ≤ 62 ∧ CSq .none e ∧ ∀ z, inPd z e = (ds.map pd).any fun y => PyData.eqv y z := by
  obtain ⟨q, xs, rfl, h1, h2⟩ := seq_at a r h
  have da := dpAll_of (dp_of 40) xs ds p h2
  have pl := plainAll_of (fun d h => (plain_pd 40 d h).1) ds p
  have dl := depthAll_of (fun d h => (plain_pd 40 d h).2) ds p
  rcases h1 with h1 | h1
  · exact ⟨.list (ds.map pd), .lst h1 da, by rw [PyData.plain]; exact pl, Nat.le_trans (Nat.succ_le_succ dl) (by decide), .inl ⟨_, rfl⟩, fun _ => rfl⟩
  · exact ⟨.tuple (ds.map pd), .tup h1 da, by rw [PyData.plain]; exact pl, Nat.le_trans (Nat.succ_le_succ dl) (by decide), .inr ⟨_, rfl⟩, fun _ => rfl⟩
/-- is -/
def rIsAll : R2 := fun x y H Q => (y = .non ∧ Q (.bl (decide (x = .non))) H) ∨ (∃ a b, x = .bl a ∧ y = .bl b ∧ Q (.bl (decide (a = b))) H)
def rIsntAll : R2 := fun x y H Q => (y = .non ∧ Q (.bl (!decide (x = .non))) H) ∨ (∃ a b, x = .bl a ∧ y = .bl b ∧ Q (.bl (!decide (a = b))) H)
theorem op_isAll {X : L2.Cx} : OpR X (compareOp .Is) rIsAll := OpR.or op_isN op_is_bl
theorem op_isntAll {X : L2.Cx} : OpR X (compareOp .IsNot) rIsntAll := OpR.or op_notN op_isnot_bl
theorem rep_not_non {v : V} {d : D} (r : Rep K H g v d) (h : d ≠ .non) : v ≠ .non := by
  cases d with
  | non => exact absurd rfl h
  | bl b => rw [r.bl_inv]; intro e; cases e
  | int b => rw [r.int_inv]; intro e; cases e
  | str b => rw [r.str_inv]; intro e; cases e
  | tup ds => obtain ⟨a, _, rfl, _⟩ := r.tup_inv; intro e; cases e
  | lst ds => rw [Rep] at r; obtain ⟨a, _, rfl, _⟩ := r; intro e; cases e
  | dct ks ds => rw [Rep] at r; obtain ⟨a, _, _, _, rfl, _⟩ := r; intro e; cases e
  | scr ds => rw [Rep] at r; obtain ⟨a, _, rfl, _⟩ := r; intro e; cases e
  | loc l => rw [Rep] at r; obtain ⟨a, rfl, _⟩ := r; intro e; cases e
end
end Mini
namespace Mini
open PySem PySem.Spec PyProof.Rows L2
section
variable {K : Frag}
theorem any_pd (f : PyData → Bool) : ∀ ds : List D, (ds.map pd).any f = ds.any fun y => f (pd y)
  | [] => rfl
  | d :: ds => by rw [List.map_cons, List.any_cons, List.any_cons, any_pd f ds]
theorem inD_some {x y : D} {S : Store} {z : Bool} (h : inD x y S = some z) : (∃ a b, x = .str a ∧ y = .str b ∧ z = !(Builtin.Str.occurrences b a 0 b.length 1).isEmpty) ∨
    ∃ ys, seqOf y S = some ys ∧ plain 40 x = true ∧ ys.all (plain 40) = true ∧ z = ys.any fun w => PyData.eqv (pd w) (pd x) := by
  unfold inD at h
  split at h
  · split at h
    · cases h; exact .inl ⟨_, _, rfl, rfl, rfl⟩
    · cases h
  · obtain ⟨ys, h1, h2⟩ := Option.bind_eq_some_iff.mp h
    unfold inL at h2
    split at h2
    · rename_i q
      cases h2
      rw [Bool.and_eq_true] at q
      exact .inr ⟨ys, h1, q.1, q.2, rfl⟩
    · cases h2
theorem opB_in : OpB K (rInAll K false) inD := by
  intro H g S x y d e z Q a rx ry hz q
  rcases inD_some hz with ⟨u, w, rfl, rfl, rfl⟩ | ⟨ys, h1, h2, h3, rfl⟩
  · exact .inl ⟨_, _, rx.str_inv, ry.str_inv, q⟩
  · obtain ⟨e', d1, p1, z1, c1, e1⟩ := dp_seq a ry h1 h3
    refine .inr ⟨_, e', dp_of 40 d x h2 rx, d1, (plain_pd 40 _ h2).1, p1, dep62 h2, z1, c1, ?_⟩
    show Q (.bl (inPd (pd d) e')) H
    rw [e1, any_pd]
    exact q
theorem opB_notin : OpB K (rInAll K true) (fun x y S => (inD x y S).map not) := by
  intro H g S x y d e z Q a rx ry hz q
  obtain ⟨z', hz', rfl⟩ := Option.map_eq_some_iff.mp hz
  rcases inD_some hz' with ⟨u, w, rfl, rfl, rfl⟩ | ⟨ys, h1, h2, h3, rfl⟩
  · exact .inl ⟨_, _, rx.str_inv, ry.str_inv, q⟩
  · obtain ⟨e', d1, p1, z1, c1, e1⟩ := dp_seq a ry h1 h3
    refine .inr ⟨_, e', dp_of 40 d x h2 rx, d1, (plain_pd 40 _ h2).1, p1, dep62 h2, z1, c1, ?_⟩
    show Q (.bl (!inPd (pd d) e')) H
    rw [e1, any_pd]
    exact q
end
end Mini

set_option maxHeartbeats 4000000
/-! MINI, part 7: is, truth, and, or, not, tests. -/
namespace Mini
open PySem PySem.Spec PyProof.Rows L2
section
variable {K : Frag} {H : Hp} {g : Gh} {S : Store}
theorem opB_is : OpB K rIsAll (fun x y _ => isD x y) := by
  intro H g S x y d e z Q a rx ry hz q
  dsimp only at hz
  unfold isD at hz
  split at hz
  · refine .inl ⟨ry.non_inv, ?_⟩
    split at hz
    · cases hz; rw [rx.non_inv]; exact q
    · rename_i hne
      cases hz
      rw [decide_eq_false (rep_not_non rx hne)]
      exact q
  · split at hz
    · cases hz; exact .inr ⟨_, _, rx.bl_inv, ry.bl_inv, q⟩
    · cases hz
  · cases hz
theorem opB_isnt : OpB K rIsntAll (fun x y _ => (isD x y).map not) := by
  intro H g S x y d e z Q a rx ry hz q
  obtain ⟨z', hz', rfl⟩ := Option.map_eq_some_iff.mp hz
  unfold isD at hz'
  split at hz'
  · refine .inl ⟨ry.non_inv, ?_⟩
    split at hz'
    · cases hz'; rw [rx.non_inv]; exact q
    · rename_i hne
      cases hz'
      rw [decide_eq_false (rep_not_non rx hne)]
      exact q
  · split at hz'
    · cases hz'; exact .inr ⟨_, _, rx.bl_inv, ry.bl_inv, q⟩
    · cases hz'
  · cases hz'
theorem reps_isEmpty {xs : List V} {ds : List D} (r : Reps K H g xs ds) : xs.isEmpty = ds.isEmpty := by
  cases ds with
  | nil => rw [Reps] at r; rw [r]; rfl
  | cons d ds => rw [Reps] at r; obtain ⟨v, u, e, _⟩ := r; rw [e]; rfl
theorem tru_of (a : After K H g H g S) {v : V} {d : D} {k : Bool} (r : Rep K H g v d) (h : truth d S = some k) : TruV K v H k := by
  have sq : ∀ ds, seqOf d S = some ds → k = !ds.isEmpty → TruV K v H k := fun ds e ek => by
    obtain ⟨p, xs, rfl, h1, h2⟩ := seq_at a r e
    subst ek
    rw [← reps_isEmpty h2]
    rcases h1 with h1 | h1
    · exact .inl ⟨xs, h1, rfl⟩
    · exact .inr (.inl ⟨xs, h1, rfl⟩)
  unfold truth at h
  split at h
  · cases h; rw [r.non_inv]; rfl
  · cases h; rw [r.bl_inv]; rfl
  · cases h; rw [r.int_inv]; rfl
  · split at h
    · rename_i q
      cases h
      rw [r.str_inv]
      exact ⟨by rw [line_eq]; exact q, rfl⟩
    · cases h
  · obtain ⟨ds, e, ek⟩ := Option.map_eq_some_iff.mp h
    exact sq ds e ek.symm
end
section
variable {X : L2.Cx} {ct : CT} {W : WX} {a b c : Expr} {ma mb mc : Env → M D} {ta tb tc : Env → M Bool} {rest : List Expr} {pos : Pos}
theorem de_one {op : BoolOp} (ha : DE X ct W a ma) : DE X ct W (.BoolOp op [a] pos) ma := pe_one ha
theorem de_and (ha : DE X ct W a ma) (hb : DE X ct W (.BoolOp .And (b :: rest) pos) mb) :
    DE X ct W (.BoolOp .And (a :: b :: rest) pos) (fun ρ => bnd (ma ρ) fun x => bnd (look (truth x)) fun k => if k then mb ρ else ret x) := by
  refine (pe_andT ha hb).imp fun σ H Q ⟨g, ρ, S, r, h⟩ => ?_
  refine ⟨g, ρ, S, r, (Out.bi (RA := RD X.K) h).mono fun v H1 ⟨g1, d, S1, af, rv, h1⟩ => ?_⟩
  obtain ⟨k, hk, h2⟩ := Out.lk h1
  refine ⟨k, tru_of af.here rv hk, ?_⟩
  cases k with
  | true => rw [if_pos rfl]; exact ⟨g1, ρ, S1, r.after af, h2⟩
  | false => rw [if_neg Bool.false_ne_true]; exact h2 H1 g1 v af.here rv
theorem de_or (ha : DE X ct W a ma) (hb : DE X ct W (.BoolOp .Or (b :: rest) pos) mb) :
    DE X ct W (.BoolOp .Or (a :: b :: rest) pos) (fun ρ => bnd (ma ρ) fun x => bnd (look (truth x)) fun k => if k then ret x else mb ρ) := by
  refine (pe_orT ha hb).imp fun σ H Q ⟨g, ρ, S, r, h⟩ => ?_
  refine ⟨g, ρ, S, r, (Out.bi (RA := RD X.K) h).mono fun v H1 ⟨g1, d, S1, af, rv, h1⟩ => ?_⟩
  obtain ⟨k, hk, h2⟩ := Out.lk h1
  refine ⟨k, tru_of af.here rv hk, ?_⟩
  cases k with
  | false => rw [if_neg Bool.false_ne_true]; exact ⟨g1, ρ, S1, r.after af, h2⟩
  | true => rw [if_pos rfl]; exact h2 H1 g1 v af.here rv
theorem de_not (ha : DE X ct W a ma) : DE X ct W (.UnaryOp .Not a pos) (fun ρ => bnd (ma ρ) fun x => bnd (look (truth x)) fun k => ret (.bl (!k))) := by
  refine (pe_notT ha).imp fun σ H Q ⟨g, ρ, S, r, h⟩ => ?_
  refine ⟨g, ρ, S, r, (Out.bi (RA := RD X.K) h).mono fun v H1 ⟨g1, d, S1, af, rv, h1⟩ => ?_⟩
  obtain ⟨k, hk, h2⟩ := Out.lk h1
  exact ⟨k, tru_of af.here rv hk, Out.bl h2 af.here⟩
/-! ### tests -/
theorem dt_val (ha : DE X ct W a ma) (he : ∀ whole, isTrue a X.env whole = (do let v ← whole; standAt a.pos; holding [v] (truthy v))) : DT X ct W a (fun ρ => bnd (ma ρ) fun x => look (truth x)) := by
  refine (pt_truth ha he).imp fun σ H Q ⟨g, ρ, S, r, h⟩ => ?_
  refine ⟨g, ρ, S, r, (Out.bi (RA := RD X.K) h).mono fun v H1 ⟨g1, d, S1, af, rv, h1⟩ => ?_⟩
  obtain ⟨k, hk, h2⟩ := Out.lk1 h1
  exact ⟨k, tru_of af.here rv hk, h2 H1 g1 k af.here rfl⟩
theorem dt_not (ha : DT X ct W a ta) : DT X ct W (.UnaryOp .Not a pos) (fun ρ => bnd (ta ρ) fun k => ret (!k)) := by
  refine (pt_not ha).imp fun σ H Q ⟨g, ρ, S, r, h⟩ => ?_
  refine ⟨g, ρ, S, r, (Out.bi (RA := RB) h).mono fun v H1 ⟨g1, d, S1, af, rv, h1⟩ => ?_⟩
  have e : v = d := rv
  subst e
  exact h1 H1 g1 _ af.here rfl
abbrev DW (X : L2.Cx) (ct : CT) (W : WX) (e : Expr) (m : Env → M Bool) : Prop := PW X e (TTv X.K ct W m)
theorem _root_.L2.PW.imp {X : L2.Cx} {e : Expr} {t t' : TT} (h : PW X e t) (i : ∀ σ H Q, t' σ H Q → t σ H Q) : PW X e t' := ⟨fun w pins s σ H Q I q => h.run w pins s σ H Q I (i σ H Q q)⟩
theorem dw_and1 (ha : DT X ct W a ta) : DW X ct W (.BoolOp .And [a] pos) ta := pw_and1 ha
theorem dw_or1 (ha : DT X ct W a ta) : DW X ct W (.BoolOp .Or [a] pos) ta := pw_or1 ha
theorem dw_and (ha : DT X ct W a ta) (hb : DW X ct W (.BoolOp .And (b :: rest) pos) tb) : DW X ct W (.BoolOp .And (a :: b :: rest) pos) (fun ρ => bnd (ta ρ) fun k => if k then tb ρ else ret false) := by
  refine (pw_and ha hb).imp fun σ H Q ⟨g, ρ, S, r, h⟩ => ?_
  refine ⟨g, ρ, S, r, (Out.bi (RA := RB) h).mono fun v H1 ⟨g1, d, S1, af, rv, h1⟩ => ?_⟩
  have e : v = d := rv
  subst e
  cases v with
  | true => rw [if_pos rfl]; exact ⟨g1, ρ, S1, r.after af, h1⟩
  | false => rw [if_neg Bool.false_ne_true]; exact h1 H1 g1 false af.here rfl
theorem dw_or (ha : DT X ct W a ta) (hb : DW X ct W (.BoolOp .Or (b :: rest) pos) tb) : DW X ct W (.BoolOp .Or (a :: b :: rest) pos) (fun ρ => bnd (ta ρ) fun k => if k then ret true else tb ρ) := by
  refine (pw_or ha hb).imp fun σ H Q ⟨g, ρ, S, r, h⟩ => ?_
  refine ⟨g, ρ, S, r, (Out.bi (RA := RB) h).mono fun v H1 ⟨g1, d, S1, af, rv, h1⟩ => ?_⟩
  have e : v = d := rv
  subst e
  cases v with
  | false => rw [if_neg Bool.false_ne_true]; exact ⟨g1, ρ, S1, r.after af, h1⟩
  | true => rw [if_pos rfl]; exact h1 H1 g1 true af.here rfl
theorem de_ite (hc : DT X ct W c tc) (ha : DE X ct W a ma) (hb : DE X ct W b mb) : DE X ct W (.IfExp c a b pos) (fun ρ => bnd (tc ρ) fun k => if k then ma ρ else mb ρ) := by
  refine (pe_ifExp hc ha hb).imp fun σ H Q ⟨g, ρ, S, r, h⟩ => ?_
  refine ⟨g, ρ, S, r, (Out.bi (RA := RB) h).mono fun v H1 ⟨g1, d, S1, af, rv, h1⟩ => ?_⟩
  have e : v = d := rv
  subst e
  cases v with
  | true => rw [if_pos rfl]; exact ⟨g1, ρ, S1, r.after af, h1⟩
  | false => rw [if_neg Bool.false_ne_true]; exact ⟨g1, ρ, S1, r.after af, h1⟩
/-- a if t else b as a test -/
theorem pt_ifExp {t : TT} {u w : TT} (hc : PT X c t) (ha : PT X a u) (hb : PT X b w) : PT X (.IfExp c a b pos) (fun σ H Q => t σ H fun k H1 => if k = true then u σ H1 Q else w σ H1 Q) := by
  refine ⟨fun pins s σ H Q I h => ?_⟩
  have e : PySem.isTrue (.IfExp c a b pos) X.env (eval (.IfExp c a b pos) X.env) = (do
    if ← PySem.isTrue c X.env (eval c X.env) then PySem.isTrue a X.env (eval a X.env) else PySem.isTrue b X.env (eval b X.env)) := by rw [PySem.isTrue]
  rw [e]
  refine wpAny_bind (thn (hc.run pins s σ H _ I h) fun d s1 ⟨H1, I1, q1⟩ => ?_)
  cases d with
  | true => exact ha.run pins s1 σ H1 Q I1 q1
  | false => exact hb.run pins s1 σ H1 Q I1 q1
theorem dt_ite (hc : DT X ct W c tc) (ha : DT X ct W a ta) (hb : DT X ct W b tb) : DT X ct W (.IfExp c a b pos) (fun ρ => bnd (tc ρ) fun k => if k then ta ρ else tb ρ) := by
  refine (pt_ifExp hc ha hb).imp fun σ H Q ⟨g, ρ, S, r, h⟩ => ?_
  refine ⟨g, ρ, S, r, (Out.bi (RA := RB) h).mono fun v H1 ⟨g1, d, S1, af, rv, h1⟩ => ?_⟩
  have e : v = d := rv
  subst e
  cases v with
  | true => rw [if_pos rfl]; exact ⟨g1, ρ, S1, r.after af, h1⟩
  | false => rw [if_neg Bool.false_ne_true]; exact ⟨g1, ρ, S1, r.after af, h1⟩
/-! ### displays -/
variable {es : List Expr} {ms : Env → M (List D)}
theorem de_tup {k : Nat} (h : DA X ct W es ms) : DE X ct W (.Tuple es k pos) (fun ρ => bnd (ms ρ) fun ds => if ds.length ≤ line then ret (.tup ds) else bad) := by
  refine (pe_tup h).imp fun σ H Q ⟨g, ρ, S, r, h⟩ => ?_
  refine ⟨g, ρ, S, r, (Out.bi (RA := RDs X.K) h).mono fun v H1 ⟨g1, d, S1, af, rv, h1⟩ => ?_⟩
  obtain ⟨hl, h2⟩ := Out.it h1
  refine ⟨by rw [line_eq, rv.length]; exact hl, fun p hp => h2 _ _ _ (af.here.laid hp _) (new_tup af.here hp rv)⟩
end
end Mini

set_option maxHeartbeats 4000000
/-! MINI, part 8: new lists. -/
namespace Mini
open PySem PySem.Spec PyProof.Rows L2
/-- an object that was made since H -/
def RO (K : Frag) (H : Hp) : Hp → Gh → V → O → Prop := fun H1 g1 v o => ∃ p, v = .ref p ∧ H p = none ∧ ¬ g1.F p ∧ p ∉ g1.μ ∧ (match o with
  | .l ds => ∃ xs, H1 p = some (.lst xs) ∧ Reps K H1 g1 xs ds
  | .d ks ds => ∃ ob xs, H1 p = some ob ∧ MutO ob ∧ DicOf ob ks xs ∧ Reps K H1 g1 xs ds)
def TFv (K : Frag) (ct : CT) (W : WX) (m : Env → M O) : TE := fun σ H Q => ∃ g ρ S, Rel K g σ H ρ S ∧ Out K ct H g (fun c d H' => W c d σ H') (RO K H) Q (m ρ S)
abbrev DF (X : L2.Cx) (ct : CT) (W : WX) (e : Expr) (m : Env → M O) : Prop := PE X e (TFv X.K ct W m)
section
variable {K : Frag} {H H1 : Hp} {g g1 : Gh} {S S1 : Store} {p : Addr}
theorem Gh.freeze_mon : Mon H g H (g.freeze p) := ⟨fun a h => Or.inl h, ⟨[], by simp [Gh.freeze]⟩, fun a o h _ => h⟩
theorem Gh.cell_mon : Mon H g H (g.cell p) := ⟨fun a h => h, ⟨[p], rfl⟩, fun a o h _ => h⟩
/-- what was made since H may be frozen -/
theorem After.freeze (af : After K H g H1 g1 S1) (hp : H p = none) {o : HO} (h1 : H1 p = some o) (nm : p ∉ g1.μ) : After K H g H1 (g1.freeze p) S1 := by
  have e1 : Ext H1 g1 H1 g1 := Ext.refl
  have e : Ext H g H1 (g1.freeze p) := ⟨fun a h => .inl (af.ext.fz a h), af.ext.mu, af.ext.keep, fun a h => by
    rcases h with h | h
    · exact af.ext.new a h
    · exact .inr (by rw [h]; exact hp)⟩
  refine ⟨e, ⟨fun x f => ?_, af.ok.mu, af.ok.nd⟩, af.cl, fun l c h => ?_⟩
  · rcases f with f | f
    · exact af.ok.fz x f
    · subst f; exact ⟨⟨o, h1⟩, nm⟩
  · obtain ⟨x, h2, h3⟩ := af.cells l c h
    exact ⟨x, h2, h3.mon Gh.freeze_mon af.ok rfl⟩
/-- .. or become a cell -/
theorem After.cellOf (af : After K H g H1 g1 S1) (hp : H p = none) {o : HO} (h1 : H1 p = some o) (m : MutO o) (nf : ¬ g1.F p) (nm : p ∉ g1.μ) {c : Cell} (hc : CellOk K H1 (g1.cell p) p c) : After K H g H1 (g1.cell p) (S1 ++ [c]) := by
  obtain ⟨l0, e0, n0⟩ := af.ext.mu
  have e : Ext H g H1 (g1.cell p) := ⟨af.ext.fz, ⟨l0 ++ [p], by show g1.μ ++ [p] = _; rw [e0, List.append_assoc], fun a h => by
    rcases List.mem_append.mp h with h | h
    · exact n0 a h
    · rw [List.mem_singleton.mp h]; exact hp⟩, af.ext.keep, af.ext.new⟩
  refine ⟨e, ⟨fun x f => ⟨(af.ok.fz x f).1, fun q => ?_⟩, fun x q => ?_, ?_⟩, by rw [List.length_append, af.cl]; simp [Gh.cell], fun l d h => ?_⟩
  · rcases List.mem_append.mp q with q | q
    · exact (af.ok.fz x f).2 q
    · rw [List.mem_singleton.mp q] at f
      exact nf f
  · rcases List.mem_append.mp q with q | q
    · exact af.ok.mu x q
    · rw [List.mem_singleton.mp q]
      exact ⟨o, h1, m⟩
  · refine List.nodup_append.mpr ⟨af.ok.nd, by simp, fun x hx y hy => ?_⟩
    rw [List.mem_singleton.mp hy]
    rintro rfl
    exact nm hx
  · by_cases hl : l < S1.length
    · rw [List.getElem?_append_left hl] at h
      obtain ⟨x, h2, h3⟩ := af.cells l d h
      refine ⟨x, ?_, h3.mon Gh.cell_mon af.ok rfl⟩
      show (g1.μ ++ [p])[l]? = some x
      rw [List.getElem?_append_left (by rw [← af.cl]; exact hl)]
      exact h2
    · have e1 : l = S1.length := by
        have := (List.getElem?_eq_some_iff.mp h).1
        rw [List.length_append] at this
        simp at this
        omega
      subst e1
      rw [List.getElem?_append_right (Nat.le_refl _)] at h
      simp at h
      subst h
      refine ⟨p, ?_, hc⟩
      show (g1.μ ++ [p])[S1.length]? = some p
      rw [List.getElem?_append_right (by rw [af.cl]; exact Nat.le_refl _), af.cl]
      simp
theorem After.old_none (af : After K H g H1 g1 S1) (hp : H1 p = none) : H p = none := by
  cases q : H p with
  | none => rfl
  | some o =>
    obtain ⟨o', h'⟩ := af.ext.there af.ok q
    rw [hp] at h'; cases h'
/-- a list just laid -/
theorem ro_list (af : After K H g H1 g1 S1) (hp : H1 p = none) {xs : List V} {ds : List D} (r : Reps K H1 g1 xs ds) :
    After K H g (upd H1 p (.lst xs)) g1 S1 ∧ RO K H (upd H1 p (.lst xs)) g1 (.ref p) (.l ds) :=
  ⟨af.trans (af.here.laid hp _), p, rfl, af.old_none hp, af.ok.fresh_F hp, af.ok.fresh_mu hp, xs, upd_same, r.ext (af.here.laid hp _).ext af.ok⟩
/-- what place does -/
theorem place_ok {ct : CT} {W : Value → Option Addr → Hp → Prop} {Q : VK} {m : Mode} {o : O} (h : Out K ct H g W (RD K) Q (place m o S1)) : ∀ H1 g1 b, After K H g H1 g1 S1 → RO K H H1 g1 b o → Q b H1 := by
  rintro H1 g1 b af ⟨p, rfl, hp, nf, nm, ro⟩
  cases m with
  | frz =>
    cases o with
    | l ds =>
      obtain ⟨xs, h1, h2⟩ := ro
      refine h H1 (g1.freeze p) (.ref p) (af.freeze hp h1 nm) ?_
      rw [RD, Rep]
      exact ⟨p, xs, rfl, .inl ⟨.of h1, .inr rfl⟩, h2.mon Gh.freeze_mon af.ok⟩
    | d ks ds => exact h.elim
  | cell =>
    cases o with
    | l ds =>
      obtain ⟨xs, h1, h2⟩ := ro
      refine h H1 (g1.cell p) (.ref p) (af.cellOf hp h1 trivial nf nm ⟨xs, h1, h2.mon Gh.cell_mon af.ok⟩) (rep_loc' af.here)
    | d ks ds =>
      obtain ⟨ob, xs, h1, mo, h3, h2⟩ := ro
      refine h H1 (g1.cell p) (.ref p) (af.cellOf hp h1 mo nf nm ⟨ob, xs, h1, mo, h3, h2.mon Gh.cell_mon af.ok⟩) (rep_loc' af.here)
end
section
variable {X : L2.Cx} {ct : CT} {W : WX} {a b c : Expr} {ma mb mc : Env → M D} {es : List Expr} {ms : Env → M (List D)} {mo : Env → M O} {pos : Pos}
/-- the way from an inner reckoning to a last step that makes an object -/
theorem Out.last {α β γ δ : Type} {K : Frag} {H : Hp} {g : Gh} {W : Value → Option Addr → Hp → Prop} {RA : Hp → Gh → β → α → Prop} {RC : Hp → Gh → δ → γ → Prop} {Q : δ → Hp → Prop} {Q1 : β → Hp → Prop} {m : M α} {k : α → M γ} {S : Store}
    (h : Out K ct H g W RC Q (bnd m k S)) (i : ∀ H1 g1 b a S1, After K H g H1 g1 S1 → RA H1 g1 b a → Out K ct H g W RC Q (k a S1) → Q1 b H1) : Out K ct H g W RA Q1 (m S) := by
  unfold Mini.bnd at h
  cases e : m S with
  | ok a S1 => rw [e] at h; exact fun H1 g1 b af ra => i H1 g1 b a S1 af ra h
  | err c fs S1 => rw [e] at h; exact h
  | bad => rw [e] at h; exact h
theorem de_new {m : Mode} (h : DF X ct W a mo) : DE X ct W a (fun ρ => bnd (mo ρ) fun o => place m o) :=
  L2.PE.imp h fun σ H Q ⟨g, ρ, S, r, h⟩ => ⟨g, ρ, S, r, Out.last h fun H1 g1 b o S1 af ro h1 => place_ok h1 H1 g1 b af ro⟩
theorem df_disp (h : DA X ct W es ms) : DF X ct W (.List es pos) (fun ρ => bnd (ms ρ) fun ds => if ds.length ≤ line then ret (.l ds) else bad) := by
  refine (pe_lst h).imp fun σ H Q ⟨g, ρ, S, r, h⟩ => ⟨g, ρ, S, r, Out.last (RA := RDs X.K) h fun H1 g1 vs ds S1 af rv h1 => ?_⟩
  obtain ⟨hl, h2⟩ := Out.it h1
  refine ⟨by rw [line_eq, rv.length]; exact hl, fun p hp => ?_⟩
  obtain ⟨af2, ro⟩ := ro_list af hp rv
  exact h2 _ _ _ af2 ro
end
end Mini

set_option maxHeartbeats 4000000
/-! MINI, part 9: sum, max, min, all, any over lists and tuples. -/
namespace L2
open PySem PySem.Spec PyProof.Rows
section
variable {X : L2.Cx}
theorem Vals.getV : ∀ {xs : List V} {us : List Value} {i : Nat} {u : Value}, Vals xs us → us[i]? = some u → ∃ x, xs[i]? = some x ∧ RelV x u
  | _, _, _, _, .nil, e => by simp at e
  | _, _, 0, _, .cons r _, e => by simp at e; subst e; exact ⟨_, rfl, r⟩
  | _, _, i + 1, u, .cons _ t, e => by
    obtain ⟨x, h1, h2⟩ := Vals.getV (i := i) (u := u) t (by simpa using e)
    exact ⟨x, by simpa using h1, h2⟩
/-- a list or a tuple of these -/
def SqA (K : PySem.W.Frag) (H : Hp) (a : Addr) (xs : List V) : Prop := SqL K H a xs ∨ SqT K H a xs
theorem alike_ints : ∀ ns : List Int, PySem.W.AlikeAll (ns.map PyData.int) := fun ns => by
  refine ⟨fun x hx y hy => ?_, fun x hx => ?_⟩
  · obtain ⟨i, _, rfl⟩ := List.mem_map.mp hx
    obtain ⟨j, _, rfl⟩ := List.mem_map.mp hy
    rfl
  · obtain ⟨i, _, rfl⟩ := List.mem_map.mp hx
    intro e; cases e
theorem depth_ints : ∀ ns : List Int, PyData.depthAll (ns.map PyData.int) = 0
  | [] => rfl
  | n :: ns => by
    show max (PyData.int n).depth (PyData.depthAll (ns.map PyData.int)) = 0
    rw [depth_ints ns]; rfl
theorem reads_int {h : Heap} {v : Value} {i : Int} {as : List Addr} (r : Reads h v (.int i) as) : ∃ t, v = .int i t := by
  cases r; exact ⟨_, rfl⟩
def rMaxA (K : PySem.W.Frag) : List V → Hp → VK → Prop := fun vs H Q => ∃ (a : Addr) (n : Int) (ns : List Int), vs = [V.ref a] ∧ SqA K H a ((n :: ns).map V.int) ∧ Q (.int (ns.foldl max n)) H
def rMinA (K : PySem.W.Frag) : List V → Hp → VK → Prop := fun vs H Q => ∃ (a : Addr) (n : Int) (ns : List Int), vs = [V.ref a] ∧ SqA K H a ((n :: ns).map V.int) ∧ Q (.int (ns.foldl min n)) H
theorem cr_maxA (hc : X.calm = true) (hu : X.A.units + 64 < cLine) : CallR X (.builtin "max") (rMaxA X.K) := by
  intro pins s σ H vs us Q I r h
  obtain ⟨a, n, ns, rfl, hs, q⟩ := h
  rw [Vals.ref1 r]
  have fin : ∀ (i : Nat) (v : Value) (h' : Heap) (tk : Nat) (bs : List Addr), Reads h' v (PySem.W.maxD (.int n) (ns.map .int)) bs → (∀ b o, s.heap.get? b = some o → h'.get? b = some o) → EP X pins σ Q v { s with heap := h', toks := tk } := fun i v h' tk bs hv hk => by
    rw [PySem.W.maxD_ints] at hv
    obtain ⟨t, rfl⟩ := reads_int hv
    exact ⟨.int _, H, I.kept hk, ⟨t, rfl⟩, q⟩
  rcases hs with hs | hs
  · obtain ⟨its, rv, hl, _⟩ := I.list hs
    exact PySem.W.max_list_data (I.ok.hd hc) hl.isList (x := .int n) (xs := ns.map .int) (as := []) (rv.ints.reads _) (alike_ints (n :: ns)) (by have := depth_ints (n :: ns); simp only [List.map_cons] at this; rw [this]; omega) fun i v h' tk bs hv hr hk => fin i v h' tk bs hr hk
  · obtain ⟨its, rv, hl, _⟩ := I.tuple hs
    exact PySem.W.max_tuple_data (I.ok.hd hc) hl (x := .int n) (xs := ns.map .int) (as := []) (rv.ints.reads _) (alike_ints (n :: ns)) (by have := depth_ints (n :: ns); simp only [List.map_cons] at this; rw [this]; omega) fun i v h' tk bs hv hr hk => fin i v h' tk bs hr hk
theorem cr_minA (hc : X.calm = true) (hu : X.A.units + 64 < cLine) : CallR X (.builtin "min") (rMinA X.K) := by
  intro pins s σ H vs us Q I r h
  obtain ⟨a, n, ns, rfl, hs, q⟩ := h
  rw [Vals.ref1 r]
  have fin : ∀ (i : Nat) (v : Value) (h' : Heap) (tk : Nat) (bs : List Addr), Reads h' v (PySem.W.minD (.int n) (ns.map .int)) bs → (∀ b o, s.heap.get? b = some o → h'.get? b = some o) → EP X pins σ Q v { s with heap := h', toks := tk } := fun i v h' tk bs hv hk => by
    rw [PySem.W.minD_ints] at hv
    obtain ⟨t, rfl⟩ := reads_int hv
    exact ⟨.int _, H, I.kept hk, ⟨t, rfl⟩, q⟩
  rcases hs with hs | hs
  · obtain ⟨its, rv, hl, _⟩ := I.list hs
    exact PySem.W.min_list_data (I.ok.hd hc) hl.isList (x := .int n) (xs := ns.map .int) (as := []) (rv.ints.reads _) (alike_ints (n :: ns)) (by have := depth_ints (n :: ns); simp only [List.map_cons] at this; rw [this]; omega) fun i v h' tk bs hv hr hk => fin i v h' tk bs hr hk
  · obtain ⟨its, rv, hl, _⟩ := I.tuple hs
    exact PySem.W.min_tuple_data (I.ok.hd hc) hl (x := .int n) (xs := ns.map .int) (as := []) (rv.ints.reads _) (alike_ints (n :: ns)) (by have := depth_ints (n :: ns); simp only [List.map_cons] at this; rw [this]; omega) fun i v h' tk bs hv hr hk => fin i v h' tk bs hr hk
/-- max(xs, default=z) -/
def rMaxD (K : PySem.W.Frag) : List V → List V → Hp → VK → Prop := fun vs zs H Q => ∃ (a : Addr) (ns : List Int) (z : Int), vs = [V.ref a] ∧ zs = [.int z] ∧ SqA K H a (ns.map V.int) ∧ Q (.int (match ns with
  | [] => z
  | n :: r => r.foldl max n)) H
theorem cr_maxD (hc : X.calm = true) (hu : X.A.units + 64 < cLine) : CallRK X (.builtin "max") [Str.ofString "default"] (rMaxD X.K) := by
  intro pins s σ H vs zs us ws Q I r rz h
  obtain ⟨a, ns, z, rfl, rfl, hs, q⟩ := h
  rw [Vals.ref1 r]
  obtain ⟨w, rfl, rw'⟩ := vals1 rz
  show wpAny _ _ (call (.builtin "max") [.ref a] [(Str.ofString "default", w)]) _ _ _
  have f0 : ns.map PyData.int = [] → ∀ h' tk, (∀ b o, s.heap.get? b = some o → h'.get? b = some o) → EP X pins σ Q w { s with heap := h', toks := tk } := fun e h' tk hk => by
    have e2 : ns = [] := List.map_eq_nil_iff.mp e
    subst e2
    exact ⟨.int z, H, I.kept hk, rw', q⟩
  have f1 : ∀ (y : PyData) (ys : List PyData) (i : Nat) v h' tk (bs : List Addr), ns.map PyData.int = y :: ys → Reads h' v (PySem.W.maxD y ys) bs → (∀ b o, s.heap.get? b = some o → h'.get? b = some o) → EP X pins σ Q v { s with heap := h', toks := tk } := fun y ys i v h' tk bs e hv hk => by
    cases ns with
    | nil => cases e
    | cons n ns =>
      rw [List.map_cons] at e
      injection e with e1 e2
      subst e1 e2
      rw [PySem.W.maxD_ints] at hv
      obtain ⟨t, rfl⟩ := reads_int hv
      exact ⟨.int _, H, I.kept hk, ⟨t, rfl⟩, q⟩
  rcases hs with hs | hs
  · obtain ⟨its, rv, hl, _⟩ := I.list hs
    exact PySem.W.max_list_default (I.ok.hd hc) hl.isList (xs := ns.map .int) (as := []) (rv.ints.reads _) (alike_ints ns) (by rw [depth_ints]; omega) f0 fun y ys i v h' tk bs e hv hr hk => f1 y ys i v h' tk bs e hr hk
  · obtain ⟨its, rv, hl, _⟩ := I.tuple hs
    exact PySem.W.max_tuple_default (I.ok.hd hc) hl (xs := ns.map .int) (as := []) (rv.ints.reads _) (alike_ints ns) (by rw [depth_ints]; omega) f0 fun y ys i v h' tk bs e hv hr hk => f1 y ys i v h' tk bs e hr hk
/-! ### sum -/
theorem sum_fold (ns : List Int) : ∀ k : Nat, k ≤ ns.length → preSum (fun i => ns.getD i 0) k = (ns.take k).sum
  | 0, _ => by rw [preSum, List.take_zero]; rfl
  | k + 1, h => by
    have h1 : k < ns.length := h
    rw [preSum, sum_fold ns k (Nat.le_of_lt h1), List.take_succ_eq_append_getElem h1, List.sum_append, List.getD_eq_getElem?_getD, List.getElem?_eq_getElem h1]
    simp
def rSumA (K : PySem.W.Frag) : List V → Hp → VK → Prop := fun vs H Q => ∃ (a : Addr) (ns : List Int), vs = [V.ref a] ∧ SqA K H a (ns.map V.int) ∧ Q (.int ns.sum) H
theorem ints_get {ns : List Int} : ∀ {its : List Value}, IntsAre its ns → ∀ (i : Nat) (v : Value), its.toArray[i]? = some v → ∃ t, v = .int (ns.getD i 0) t := by
  intro its h i v e
  have e' : its[i]? = some v := by simpa using e
  obtain ⟨x, hx, rx⟩ := Vals.getV (vals_of_ints h) e'
  rw [List.getElem?_map] at hx
  obtain ⟨n, hn, rfl⟩ := Option.map_eq_some_iff.mp hx
  obtain ⟨t, rfl⟩ := rx
  refine ⟨t, ?_⟩
  rw [List.getD_eq_getElem?_getD, hn]
  rfl
theorem old_kept1 {h h2 : Heap} {h' : Heap} {o : Obj} (e2 : h2 = h.push o) (hk : ∀ b o, b ∉ [h.objs.size] → h2.get? b = some o → h'.get? b = some o) : ∀ b o, h.get? b = some o → h'.get? b = some o := fun b ob e => by
  subst e2
  exact hk b ob (fun m => Nat.ne_of_lt (Heap.lt_size e) (List.mem_singleton.mp m)) (Heap.get?_push_of_some _ e)
theorem cr_sumA (hc : X.calm = true) : CallR X (.builtin "sum") (rSumA X.K) := by
  intro pins s σ H vs us Q I r h
  obtain ⟨a, ns, rfl, hs, q⟩ := h
  rw [Vals.ref1 r]
  rcases hs with hs | hs
  · exact cr_sum hc pins s σ H [.ref a] [.ref a] Q I (.cons rfl .nil) ⟨a, ns, rfl, hs, q⟩
  · obtain ⟨its, rv, hl, _⟩ := I.tuple hs
    have hi := rv.ints
    have hlen : its.length = ns.length := by have := rv.length; rw [List.length_map] at this; exact this.symm
    have hlt : a < s.heap.objs.size := by obtain ⟨_, e, _⟩ := hl; exact Heap.lt_size e
    refine call_sum_walkG (wpAny_pyIter_tuple hl ?_)
    refine ⟨_, _, _, _, _, _, fun i => ns.getD i 0, rfl, Walks.tuple (A := X.A.in1) (I.ok.hd hc) s.heap.objs.size a (Nat.ne_of_lt hlt) its.toArray, ⟨⟨_, Heap.get?_push_size _ rfl, rfl, rfl⟩, hl.push _⟩, fun b hb => ?_, ints_get hi, fun h' tk t' hk => ?_⟩
    · show b < (s.heap.push _).objs.size
      rw [Heap.size_push]
      rcases List.mem_cons.mp hb with rfl | hb
      · exact Nat.lt_succ_self _
      · rw [List.mem_singleton.mp hb]; exact Nat.lt_succ_of_lt hlt
    · refine ⟨.int ns.sum, H, I.kept (old_kept1 rfl hk), ⟨t', ?_⟩, q⟩
      rw [List.size_toArray, hlen, sum_fold ns _ (Nat.le_refl _), List.take_length]
/-! ### all, any of truth values -/
theorem fits_bools : ∀ bs : List Bool, ∀ x ∈ bs.map PyData.bool, x.fits63 := fun bs x hx => by
  obtain ⟨b, _, rfl⟩ := List.mem_map.mp hx
  trivial
theorem plain_bools : ∀ bs : List Bool, PyData.plainAll (bs.map PyData.bool) = true
  | [] => by rw [List.map_nil, PyData.plainAll]
  | b :: bs => by rw [List.map_cons, PyData.plainAll, plain_bools bs, PyData.plain]; rfl
theorem reads_bools {h : Heap} : ∀ bs : List Bool, ReadsAll h (bs.map Value.bool) (bs.map PyData.bool) []
  | [] => .nil
  | b :: bs => .cons (.bool b) (reads_bools bs)
theorem all_truthy : ∀ bs : List Bool, (bs.map PyData.bool).all PyData.truthy = bs.all id
  | [] => rfl
  | b :: bs => by rw [List.map_cons, List.all_cons, List.all_cons, all_truthy bs]; rfl
theorem any_truthy : ∀ bs : List Bool, (bs.map PyData.bool).any PyData.truthy = bs.any id
  | [] => rfl
  | b :: bs => by rw [List.map_cons, List.any_cons, List.any_cons, any_truthy bs]; rfl
def rAllA (K : PySem.W.Frag) (f : List Bool → Bool) : List V → Hp → VK → Prop := fun vs H Q => ∃ (a : Addr) (bs : List Bool), vs = [V.ref a] ∧ SqA K H a (bs.map V.bl) ∧ Q (.bl (f bs)) H
theorem cr_allA (hc : X.calm = true) : CallR X (.builtin "all") (rAllA X.K fun bs => bs.all id) := by
  intro pins s σ H vs us Q I r h
  obtain ⟨a, bs, rfl, hs, q⟩ := h
  rw [Vals.ref1 r]
  rcases hs with hs | hs
  · obtain ⟨its, rv, hl, _⟩ := I.list hs
    have e := rv.bls
    subst e
    exact PySem.W.all_list_data (I.ok.hd hc) hl.isList (reads_bools bs) (plain_bools bs) (fits_bools bs) fun h' tk hk => ⟨.bl _, H, I.kept hk, (by rw [all_truthy]; rfl), q⟩
  · obtain ⟨its, rv, hl, _⟩ := I.tuple hs
    have e := rv.bls
    subst e
    exact PySem.W.all_tuple_data (I.ok.hd hc) hl (reads_bools bs) (plain_bools bs) (fits_bools bs) fun h' tk hk => ⟨.bl _, H, I.kept hk, (by rw [all_truthy]; rfl), q⟩
theorem cr_anyA (hc : X.calm = true) : CallR X (.builtin "any") (rAllA X.K fun bs => bs.any id) := by
  intro pins s σ H vs us Q I r h
  obtain ⟨a, bs, rfl, hs, q⟩ := h
  rw [Vals.ref1 r]
  rcases hs with hs | hs
  · obtain ⟨its, rv, hl, _⟩ := I.list hs
    have e := rv.bls
    subst e
    exact PySem.W.any_list_data (I.ok.hd hc) hl.isList (reads_bools bs) (plain_bools bs) (fits_bools bs) fun h' tk hk => ⟨.bl _, H, I.kept hk, (by rw [any_truthy]; rfl), q⟩
  · obtain ⟨its, rv, hl, _⟩ := I.tuple hs
    have e := rv.bls
    subst e
    exact PySem.W.any_tuple_data (I.ok.hd hc) hl (reads_bools bs) (plain_bools bs) (fits_bools bs) fun h' tk hk => ⟨.bl _, H, I.kept hk, (by rw [any_truthy]; rfl), q⟩
end
end L2

set_option maxHeartbeats 4000000
/-! MINI, part 10: isinstance of built-in types. -/
namespace L2
open PySem PySem.Spec PyProof.Rows
inductive TyV (K : PySem.W.Frag) (H : Hp) : V → String → Prop where
  | non : TyV K H .non "NoneType"
  | bl (b : Bool) : TyV K H (.bl b) "bool"
  | int (i : Int) : TyV K H (.int i) "int"
  | str (x : Str) : TyV K H (.str x) "str"
  | lst {a : Addr} {xs : List V} (h : SqL K H a xs) : TyV K H (.ref a) "list"
  | tup {a : Addr} {xs : List V} (h : SqT K H a xs) : TyV K H (.ref a) "tuple"
  | dic {a : Addr} (h : IsD H a) : TyV K H (.ref a) "dict"
section
variable {X : L2.Cx} {pins : List (Addr × Obj)} {σ : L2.St} {H : Hp} {s : Shared}
theorem kit_ofV {x : V} {u : Value} {t : String} (I : Inv X pins σ H s) (rx : RelV x u) (ty : TyV X.K H x t) : ∃ P : Heap → Prop, PySem.W.KitX X.K u (.type t) P ∧ P s.heap ∧ u ≠ .builtin "__main__.__loader__#opaque" := by
  cases ty with
  | non => cases (show u = Value.none from rx); exact ⟨_, PySem.W.kitx_none, True.intro, fun z => nomatch z⟩
  | bl y => cases (show u = Value.bool y from rx); exact ⟨_, PySem.W.kitx_bool, True.intro, fun z => nomatch z⟩
  | int i => obtain ⟨t, q⟩ := (show ∃ t, u = Value.int i t from rx); cases q; exact ⟨_, PySem.W.kitx_int, True.intro, fun z => nomatch z⟩
  | str y => obtain ⟨t, q⟩ := (show ∃ t, u = Value.str y t from rx); cases q; exact ⟨_, PySem.W.kitx_str, True.intro, fun z => nomatch z⟩
  | @lst a xs h =>
    cases (show u = Value.ref a from rx)
    obtain ⟨its, _, ⟨o, n, e, c, _⟩, _⟩ := I.list h
    exact ⟨_, PySem.W.kitx_list, ⟨o, e, c⟩, fun z => nomatch z⟩
  | @tup a xs h =>
    cases (show u = Value.ref a from rx)
    obtain ⟨its, _, ⟨o, e, c, _⟩, _⟩ := I.tuple h
    exact ⟨_, PySem.W.kitx_tuple, ⟨o, e, c⟩, fun z => nomatch z⟩
  | @dic a h =>
    cases (show u = Value.ref a from rx)
    obtain ⟨⟨o, e, c⟩, _, _⟩ := isD_at I h
    exact ⟨_, PySem.W.kitx_dict, ⟨o, e, c⟩, fun z => nomatch z⟩
def rIsiV (K : PySem.W.Frag) : List V → Hp → VK → Prop := fun xs H Q => ∃ (x : V) (t T : String) (b : Bool), xs = [x, .ty T] ∧ TyV K H x t ∧ kitB t T = some b ∧ Q (.bl b) H
theorem call_isiV : CallR X (.builtin "isinstance") (rIsiV X.K) := by
  intro pins s σ H xs us Q I r h
  obtain ⟨x, t, T, b, rfl, ty, e, q⟩ := h
  obtain ⟨u1, u2, rfl, r1, r2⟩ := vals2 r
  cases (show u2 = Value.type T from r2)
  obtain ⟨P, Z, p, hx⟩ := kit_ofV I r1 ty
  exact PySem.W.kia_one Z I.kIn p (kit_ty e) hx fun tk => ⟨.bl b, H, I.tok tk, rfl, q⟩
def kitBs (t : String) : List String → Option Bool
  | [] => some false
  | T :: r => match kitB t T, kitBs t r with
    | some a, some b => some (a || b)
    | _, _ => none
theorem kitBs_ok {K : PySem.W.Frag} {t : String} : ∀ {Ts : List String} {b : Bool}, kitBs t Ts = some b → PySem.W.kitAny K (.type t) (Ts.map Value.type) = some b
  | [], b, h => by cases h; exact kitAny_nil
  | T :: Ts, b, h => by
    unfold kitBs at h
    cases e1 : kitB t T with
    | none => rw [e1] at h; cases h
    | some a =>
      rw [e1] at h
      cases e2 : kitBs t Ts with
      | none => rw [e2] at h; cases h
      | some c =>
        rw [e2] at h
        cases h
        exact kitAny_cons (kit_ty e1) (fun q => by subst q; exact kitBs_ok e2) (fun q => by subst q; rfl)
def rIsiVT (K : PySem.W.Frag) : List V → Hp → VK → Prop := fun xs H Q => ∃ (x : V) (tp : Addr) (t : String) (Ts : List String) (b : Bool), xs = [x, .ref tp] ∧ H tp = some (.tup (Ts.map V.ty)) ∧ TyV K H x t ∧ kitBs t Ts = some b ∧ Q (.bl b) H
theorem clsV_all : ∀ Ts : List String, Paired ClsV (Ts.map V.ty) (Ts.map Value.type)
  | [] => .nil
  | T :: Ts => .cons (.ty T) (clsV_all Ts)
theorem call_isiVT : CallR X (.builtin "isinstance") (rIsiVT X.K) := by
  intro pins s σ H xs us Q I r h
  obtain ⟨x, tp, t, Ts, b, rfl, hT, ty, e, q⟩ := h
  obtain ⟨u1, u2, rfl, r1, r2⟩ := vals2 r
  cases (show u2 = Value.ref tp from r2)
  obtain ⟨P, Z, p, hx⟩ := kit_ofV I r1 ty
  obtain ⟨_, its, rv, o, h1, h2, n, h3⟩ := (show ObjOk X.prog X.w H s.heap tp (.tup (Ts.map V.ty)) from I.hok tp _ hT)
  have e3 := ClsV.all (clsV_all Ts) rv
  subst e3
  obtain ⟨oc, od, dt, sl⟩ := o
  simp only at h2 h3
  subst h2 h3
  exact PySem.W.kia_tup Z I.kIn p h1 (kitBs_ok e) hx fun tk => ⟨.bl b, H, I.tok tk, rfl, q⟩
end
end L2
namespace Mini
open PySem PySem.Spec PyProof.Rows L2
def Ty.nm : Ty → String
  | .non => "NoneType"
  | .bool => "bool"
  | .int => "int"
  | .str => "str"
  | .list => "list"
  | .tuple => "tuple"
  | .dict => "dict"
theorem kit_tab : ∀ a b : Ty, kitB a.nm b.nm = some (a.sub b) := by
  intro a b
  cases a <;> cases b <;> decide +kernel
theorem kit_tabs (a : Ty) : ∀ bs : List Ty, kitBs a.nm (bs.map Ty.nm) = some (bs.any fun u => a.sub u)
  | [] => rfl
  | b :: bs => by
    show (match kitB a.nm b.nm, kitBs a.nm (bs.map Ty.nm) with | some a, some b => some (a || b) | _, _ => none) = _
    rw [kit_tab, kit_tabs a bs]
    rfl
section
variable {K : Frag} {H : Hp} {g : Gh} {S : Store}
theorem isD_of {a : Addr} {o : HO} {ks : List D} {xs : List V} (h : Rd H a o) (d : DicOf o ks xs) : IsD H a := by
  rcases d with ⟨kvs, rfl, _⟩ | ⟨kvs, rfl, _⟩
  · exact .inl ⟨kvs, h⟩
  · exact .inr ⟨kvs, h⟩
theorem ty_of (a : After K H g H g S) {v : V} {d : D} {t : Ty} (r : Rep K H g v d) (h : tyOf d S = some t) : TyV K H v t.nm := by
  cases d with
  | non => cases h; rw [r.non_inv]; exact .non
  | bl b => cases h; rw [r.bl_inv]; exact .bl b
  | int b => cases h; rw [r.int_inv]; exact .int b
  | str b => cases h; rw [r.str_inv]; exact .str b
  | tup ds => cases h; obtain ⟨p, xs, rfl, h1, _⟩ := r.tup_inv; exact .tup h1
  | lst ds => cases h; obtain ⟨p, xs, rfl, h1, _⟩ := lst_at a r (rfl : lstOf (.lst ds) S = some ds); exact .lst h1.sq
  | scr ds => cases h; obtain ⟨p, xs, rfl, h1, _⟩ := slc_at a r (rfl : slcOf (.scr ds) S = some ds); exact .lst h1
  | dct ks ds =>
    cases h
    rw [Rep] at r
    obtain ⟨p, ob, o, xs, rfl, h1, _, h2, _⟩ := r
    exact .dic (isD_of (.inr ⟨ob, h1⟩) h2)
  | loc l =>
    rw [Rep] at r
    obtain ⟨p, rfl, h1⟩ := r
    replace h : (match S[l]? with | some (.lst _) => some Ty.list | some (.dct _ _) => some Ty.dict | none => none) = some t := h
    cases q : S[l]? with
    | none => rw [q] at h; cases h
    | some c =>
      rw [q] at h
      obtain ⟨p', h2, h3⟩ := a.cells l _ q
      rw [h1] at h2; cases h2
      cases c with
      | lst es => cases h; obtain ⟨xs, h4, _⟩ := h3; exact .lst (.of h4)
      | dct ks vs => cases h; obtain ⟨o, xs, h4, _, h5, _⟩ := h3; exact .dic (isD_of (.of h4) h5)
end
section
variable {X : L2.Cx} {ct : CT} {W : WX} {a b c : Expr} {ma mb mc : Env → M D} {es : List Expr} {ms : Env → M (List D)} {pos p : Pos}
/-- the name of a built-in type -/
theorem pe_tyName {T : Str} {n : String} {q : Pos} (hg : Gl X T) (hm : X.mg T = none) (hv : bootBuiltins T = some (.type n)) (hn : T ≠ "__name__") (hd : (T == ("__debug__" : Str)) = false) : PE X (.Name T q) (tC (.ty n)) :=
  pe_bltn hg hm hv rfl hn hd
theorem de_isi {T : Str} {t : Ty} {q : Pos} (hg : Gl X "isinstance") (hm : X.mg "isinstance" = none) (hgT : Gl X T) (hmT : X.mg T = none) (hvT : bootBuiltins T = some (.type t.nm)) (hnT : T ≠ "__name__") (hdT : (T == ("__debug__" : Str)) = false)
    (ha : DE X ct W a ma) (he : starEach [a, .Name T q] X.env = (false, eval a X.env) :: starEach [.Name T q] X.env) :
    DE X ct W (.Call (.Name "isinstance" p) [a, .Name T q] [] pos) (fun ρ => bnd (ma ρ) fun x => bnd (look (tyOf x)) fun u => ret (.bl ([t].any fun w => u.sub w))) := by
  refine (pe_callB call_isiV hg hm (by decide +kernel) (pa_cons ha (pa_cons (pe_tyName hgT hmT hvT hnT hdT) pa_nil rfl) he) (by decide) (by decide) he rfl).imp fun σ H Q ⟨g, ρ, S, r, h⟩ => ?_
  refine ⟨g, ρ, S, r, (Out.bi (RA := RD X.K) h).mono fun v H1 ⟨g1, d, S1, af, rv, h1⟩ => ?_⟩
  obtain ⟨u, hu, h2⟩ := Out.lk h1
  exact ⟨v, u.nm, t.nm, u.sub t, rfl, ty_of af.here rv hu, kit_tab u t, by simpa using Out.bl h2 af.here⟩
theorem pa_tys : ∀ {Ts : List (Str × Ty × Pos)}, (∀ q ∈ Ts, Gl X q.1 ∧ X.mg q.1 = none ∧ bootBuiltins q.1 = some (.type q.2.1.nm) ∧ q.1 ≠ "__name__" ∧ (q.1 == ("__debug__" : Str)) = false) →
    PA X (Ts.map fun q => Expr.Name q.1 q.2.2) (fun σ H Q => Q (Ts.map fun q => V.ty q.2.1.nm) H)
  | [], _ => pa_nil
  | q :: Ts, h => by
    obtain ⟨h1, h2, h3, h4, h5⟩ := h q List.mem_cons_self
    exact pa_cons (pe_tyName h1 h2 h3 h4 h5) (pa_tys fun z hz => h z (List.mem_cons_of_mem _ hz)) rfl
theorem de_isiT {Ts : List (Str × Ty × Pos)} {k : Nat} {q : Pos} (hg : Gl X "isinstance") (hm : X.mg "isinstance" = none)
    (hT : ∀ q ∈ Ts, Gl X q.1 ∧ X.mg q.1 = none ∧ bootBuiltins q.1 = some (.type q.2.1.nm) ∧ q.1 ≠ "__name__" ∧ (q.1 == ("__debug__" : Str)) = false) (hl : Ts.length ≤ 100)
    (ha : DE X ct W a ma) (he : starEach [a, .Tuple (Ts.map fun q => Expr.Name q.1 q.2.2) k q] X.env = (false, eval a X.env) :: starEach [.Tuple (Ts.map fun q => Expr.Name q.1 q.2.2) k q] X.env) :
    DE X ct W (.Call (.Name "isinstance" p) [a, .Tuple (Ts.map fun q => Expr.Name q.1 q.2.2) k q] [] pos) (fun ρ => bnd (ma ρ) fun x => bnd (look (tyOf x)) fun u => ret (.bl ((Ts.map fun q => q.2.1).any fun w => u.sub w))) := by
  refine (pe_callB call_isiVT hg hm (by decide +kernel) (pa_cons ha (pa_cons (pe_tup (pa_tys hT)) pa_nil rfl) he) (by decide) (by decide) he rfl).imp fun σ H Q ⟨g, ρ, S, r, h⟩ => ?_
  refine ⟨g, ρ, S, r, (Out.bi (RA := RD X.K) h).mono fun v H1 ⟨g1, d, S1, af, rv, h1⟩ => ?_⟩
  obtain ⟨u, hu, h2⟩ := Out.lk h1
  refine ⟨by rw [List.length_map, sizeLine_eq]; omega, fun tp hp => ?_⟩
  have al := af.here.laid (p := tp) hp (.tup (Ts.map fun q => V.ty q.2.1.nm))
  refine ⟨v, tp, u.nm, (Ts.map fun q => q.2.1).map Ty.nm, _, rfl, ?_, ty_of al.here (rv.ext al.ext af.ok) hu, kit_tabs u _, ?_⟩
  · rw [upd_same, List.map_map, List.map_map]; rfl
  · exact h2 _ _ _ al rep_bl
end
end Mini

set_option maxHeartbeats 4000000
/-! MINI, part 11: calls of built-in functions. -/
namespace L2
open PySem PySem.Spec PyProof.Rows
/-- len of a text, a list, a tuple, a dict -/
def rLenAll (K : PySem.W.Frag) : List V → Hp → VK → Prop := fun xs H Q => (∃ x n, xs = [x] ∧ LenV K x H n ∧ Q (.int n) H) ∨
  (∃ p kvs, xs = [V.ref p] ∧ Rd H p (.dK kvs) ∧ Q (.int (kvs.length : Nat)) H) ∨ ∃ p kvs, xs = [V.ref p] ∧ Rd H p (.dT kvs) ∧ Q (.int (kvs.length : Nat)) H
theorem call_lenAll {X : Cx} : CallR X (.builtin "len") (rLenAll X.K) := by
  intro pins s σ H xs us Q I r h
  rcases h with h | ⟨p, kvs, rfl, hp, q⟩ | ⟨p, kvs, rfl, hp, q⟩
  · exact call_len pins s σ H xs us Q I r h
  · obtain ⟨u, rfl, rx⟩ := vals1 r
    cases rx
    exact d_len I hp fun t s' I' => ⟨.int kvs.length, H, I', ⟨t, rfl⟩, q⟩
  · obtain ⟨u, rfl, rx⟩ := vals1 r
    obtain rfl : u = .ref p := rx
    obtain ⟨z, hd, ys, rel, dd⟩ := dt_rd I.hok hp
    have hl : kvs.length = ys.length := Paired.length rel
    refine call_len_dictH hd dd (by rw [← hl]; rw [sizeLine_eq] at z; omega) ?_
    rw [← hl]
    exact ⟨.int ((kvs.length : Nat) : Int), H, I.tok _, ⟨_, rfl⟩, q⟩
def rFact : List V → Hp → VK → Prop := fun xs H Q => ∃ i : Int, xs = [V.int i] ∧ 0 ≤ i ∧ i ≤ 20 ∧ Q (.int ((Builtin.Math.factorialNat i.toNat : Nat) : Int)) H
theorem fact_small : ∀ n : Nat, n ≤ 20 → (((Builtin.Math.factorialNat n : Nat) : Int)).natAbs.log2 < bitsLine := by
  intro n h
  have : ∀ n : Fin 21, (((Builtin.Math.factorialNat n.1 : Nat) : Int)).natAbs.log2 < bitsLine := by decide +kernel
  exact this ⟨n, by omega⟩
theorem call_fact {X : Cx} : CallR X (.builtin "math.factorial") rFact := by
  intro pins s σ H xs us Q I r h
  obtain ⟨i, rfl, h0, h1, q⟩ := h
  obtain ⟨u, rfl, rx⟩ := vals1 r
  obtain ⟨t, rfl⟩ := rx
  refine PySem.W.mg_factorial (by unfold Builtin.Math.maxSsize; omega) (by omega) (by unfold Builtin.Math.manyFactors; omega) (fact_small i.toNat (by omega)) ?_
  exact ⟨.int _, H, I.tok _, ⟨_, rfl⟩, q⟩
/-- a function of the written part that is a builtin, by its module's name -/
theorem pe_callGB {X : Cx} {x : Str} {p pos : Pos} {e : Expr} {es : List Expr} {t : TA} {id : String} {r : List V → Hp → VK → Prop} (hc : CallR X (.builtin id) r) (hg : Gl X x) (hm : X.mg x = some (.builtin id)) (ha : PA X (e :: es) t) (hdb : (x == ("__debug__" : Str)) = false)
    (he : starEach (e :: es) X.env = (false, eval e X.env) :: starEach es X.env) (hpl : (backTo pos (starEach es X.env)).any (·.1) = false) : PE X (.Call (.Name x p) (e :: es) [] pos) (tCB r t) := by
  refine ⟨fun pins s σ H Q I h => ?_⟩
  refine wpAny_Call_Name_kw (ld_glob I hg hm ?_ hdb)
  exact PyProof.Rows.callWith_builtin1 (thn (ha.run pos pins s σ H _ I h) fun us s1 ⟨vs, H1, I1, r1, q1⟩ => hc pins s1 σ H1 vs us Q I1 r1 q1) he hpl
end L2
namespace Mini
open PySem PySem.Spec PyProof.Rows L2
/-! ### arguments without a star -/
def noStar : List Expr → Bool
  | [] => true
  | .Starred _ _ :: _ => false
  | _ :: r => noStar r
theorem star_cons {a : Expr} {es : List Expr} {env : PySem.Env} (h : noStar (a :: es) = true) : starEach (a :: es) env = (false, eval a env) :: starEach es env := by
  cases a <;> first | rfl | exact absurd h (by simp [noStar])
theorem noStar_tail {a : Expr} {es : List Expr} (h : noStar (a :: es) = true) : noStar es = true := by
  cases a <;> first | exact h | exact absurd h (by simp [noStar])
theorem star_any {pos : Pos} {env : PySem.Env} : ∀ {es : List Expr}, noStar es = true → (backTo pos (starEach es env)).any (·.1) = false
  | [], _ => rfl
  | a :: es, h => by
    rw [star_cons h]
    show (false || (backTo pos (starEach es env)).any (·.1)) = false
    rw [star_any (noStar_tail h)]; rfl
def CallD (K : Frag) (r : List V → Hp → VK → Prop) (f : List D → Store → Option D) : Prop :=
  ∀ (H : Hp) (g : Gh) (S : Store) (xs : List V) (ds : List D) (z : D) (Q : VK), After K H g H g S → Reps K H g xs ds → f ds S = some z →
    (∀ H' g' v, After K H g H' g' S → Rep K H' g' v z → Q v H') → r xs H Q
section
variable {X : L2.Cx} {ct : CT} {W : WX} {a b c : Expr} {ma mb mc : Env → M D} {es : List Expr} {ms : Env → M (List D)} {pos p : Pos} {x : Str} {id T : String} {r : List V → Hp → VK → Prop} {f : List D → Store → Option D}
theorem callD_imp (hf : CallD X.K r f) {σ : St} {H : Hp} {Q : VK} (h : TEv X.K ct W (fun ρ => bnd (ms ρ) fun ds => look (f ds)) σ H Q) : tCB r (TAv X.K ct W ms) σ H Q := by
  obtain ⟨g, ρ, S, r, h⟩ := h
  refine ⟨g, ρ, S, r, (Out.bi (RA := RDs X.K) h).mono fun vs H1 ⟨g1, ds, S1, af, rv, h1⟩ => ?_⟩
  obtain ⟨z, hz, h2⟩ := Out.lk1 h1
  exact hf H1 g1 S1 vs ds z Q af.here rv hz h2
theorem de_callB (hc : CallR X (.builtin id) r) (hf : CallD X.K r f) (hg : Gl X x) (hm : X.mg x = none) (hv : bootBuiltins x = some (.builtin id)) (ha : DA X ct W (a :: es) ms) (hn : x ≠ "__name__") (hdb : (x == ("__debug__" : Str)) = false) (he : noStar (a :: es) = true) :
    DE X ct W (.Call (.Name x p) (a :: es) [] pos) (fun ρ => bnd (ms ρ) fun ds => look (f ds)) :=
  (pe_callB hc hg hm hv ha hn hdb (star_cons he) (star_any (noStar_tail he))).imp fun σ H Q h => callD_imp hf h
theorem de_callTy (hc : CallR X (.type T) r) (hf : CallD X.K r f) (hg : Gl X x) (hm : X.mg x = none) (hv : bootBuiltins x = some (.type T)) (ha : DA X ct W (a :: es) ms) (hn : x ≠ "__name__") (hdb : (x == ("__debug__" : Str)) = false) (he : noStar (a :: es) = true) :
    DE X ct W (.Call (.Name x p) (a :: es) [] pos) (fun ρ => bnd (ms ρ) fun ds => look (f ds)) :=
  (pe_callTy hc hg hm hv ha hn hdb (star_cons he) (star_any (noStar_tail he))).imp fun σ H Q h => callD_imp hf h
theorem de_callGB (hc : CallR X (.builtin id) r) (hf : CallD X.K r f) (hg : Gl X x) (hm : X.mg x = some (.builtin id)) (ha : DA X ct W (a :: es) ms) (hdb : (x == ("__debug__" : Str)) = false) (he : noStar (a :: es) = true) :
    DE X ct W (.Call (.Name x p) (a :: es) [] pos) (fun ρ => bnd (ms ρ) fun ds => look (f ds)) :=
  (pe_callGB hc hg hm ha hdb (star_cons he) (star_any (noStar_tail he))).imp fun σ H Q h => callD_imp hf h
theorem de_neg (ha : DE X ct W a ma) : DE X ct W (.UnaryOp .USub a pos) (fun ρ => bnd (ma ρ) fun x => match x with
    | .int i => ret (.int (-i))
    | _ => bad) := by
  refine (pe_un un_neg ha).imp fun σ H Q ⟨g, ρ, S, r, h⟩ => ?_
  refine ⟨g, ρ, S, r, (Out.bi (RA := RD X.K) h).mono fun v H1 ⟨g1, d, S1, af, rv, h1⟩ => ?_⟩
  cases d with
  | int i => exact ⟨i, rv.int_inv, h1 H1 g1 _ af.here rep_int⟩
  | _ => exact h1.elim
end
section
variable {K : Frag} {H : Hp} {g : Gh} {S : Store}
theorem Reps.ints : ∀ {ds : List D} {l : List Int} {xs : List V}, intsOf ds = some l → Reps K H g xs ds → xs = l.map V.int
  | [], l, xs, h, r => by cases h; rw [Reps] at r; rw [r]; rfl
  | .int i :: ds, l, xs, h, r => by
    obtain ⟨l', h1, rfl⟩ := Option.map_eq_some_iff.mp (show (intsOf ds).map (fun l => i :: l) = some l from h)
    rw [Reps] at r
    obtain ⟨v, u, rfl, r1, r2⟩ := r
    rw [r1.int_inv, Reps.ints h1 r2]; rfl
  | .non :: ds, l, xs, h, r => by simp [intsOf] at h
  | .bl _ :: ds, l, xs, h, r => by simp [intsOf] at h
  | .str _ :: ds, l, xs, h, r => by simp [intsOf] at h
  | .tup _ :: ds, l, xs, h, r => by simp [intsOf] at h
  | .lst _ :: ds, l, xs, h, r => by simp [intsOf] at h
  | .dct _ _ :: ds, l, xs, h, r => by simp [intsOf] at h
  | .scr _ :: ds, l, xs, h, r => by simp [intsOf] at h
  | .loc _ :: ds, l, xs, h, r => by simp [intsOf] at h
theorem Reps.bools : ∀ {ds : List D} {l : List Bool} {xs : List V}, boolsOf ds = some l → Reps K H g xs ds → xs = l.map V.bl
  | [], l, xs, h, r => by cases h; rw [Reps] at r; rw [r]; rfl
  | .bl i :: ds, l, xs, h, r => by
    obtain ⟨l', h1, rfl⟩ := Option.map_eq_some_iff.mp (show (boolsOf ds).map (fun l => i :: l) = some l from h)
    rw [Reps] at r
    obtain ⟨v, u, rfl, r1, r2⟩ := r
    rw [r1.bl_inv, Reps.bools h1 r2]; rfl
  | .non :: ds, l, xs, h, r => by simp [boolsOf] at h
  | .int _ :: ds, l, xs, h, r => by simp [boolsOf] at h
  | .str _ :: ds, l, xs, h, r => by simp [boolsOf] at h
  | .tup _ :: ds, l, xs, h, r => by simp [boolsOf] at h
  | .lst _ :: ds, l, xs, h, r => by simp [boolsOf] at h
  | .dct _ _ :: ds, l, xs, h, r => by simp [boolsOf] at h
  | .scr _ :: ds, l, xs, h, r => by simp [boolsOf] at h
  | .loc _ :: ds, l, xs, h, r => by simp [boolsOf] at h
theorem reps_one {xs : List V} {d : D} (r : Reps K H g xs [d]) : ∃ v, xs = [v] ∧ Rep K H g v d := by
  rw [Reps] at r
  obtain ⟨v, u, rfl, h1, h2⟩ := r
  rw [Reps] at h2
  exact ⟨v, by rw [h2], h1⟩
theorem reps_two {xs : List V} {d e : D} (r : Reps K H g xs [d, e]) : ∃ v u, xs = [v, u] ∧ Rep K H g v d ∧ Rep K H g u e := by
  rw [Reps] at r
  obtain ⟨v, u, rfl, h1, h2⟩ := r
  obtain ⟨w, rfl, h3⟩ := reps_one h2
  exact ⟨v, w, rfl, h1, h3⟩
/-- what a function of one value does -/
theorem callD1 {r : List V → Hp → VK → Prop} {f : List D → Store → Option D} (hs : ∀ ds S z, f ds S = some z → ∃ d, ds = [d]) (h : ∀ (H : Hp) (g : Gh) (S : Store) (v : V) (d z : D) (Q : VK), After K H g H g S → Rep K H g v d → f [d] S = some z →
    (∀ H' g' v, After K H g H' g' S → Rep K H' g' v z → Q v H') → r [v] H Q) : CallD K r f := by
  intro H g S xs ds z Q a rs hz q
  obtain ⟨d, rfl⟩ := hs ds S z hz
  obtain ⟨v, rfl, rv⟩ := reps_one rs
  exact h H g S v d z Q a rv hz q
theorem bi_one {b : Bi} (hb : b ≠ .max2 ∧ b ≠ .min2 ∧ b ≠ .maxd) : ∀ ds S z, b.ev ds S = some z → ∃ d, ds = [d] := by
  intro ds S z h
  match ds with
  | [] => cases b <;> simp [Bi.ev] at h
  | [d] => exact ⟨d, rfl⟩
  | d :: e :: r => cases b <;> simp [Bi.ev] at h hb
theorem bi_len : CallD K (rLenAll K) Bi.len.ev := callD1 (bi_one (by simp)) fun H g S v d z Q a rv hz q => by
  have sq : ∀ ds, seqOf d S = some ds → z = .int ds.length → rLenAll K [v] H Q := fun ds e ez => by
    obtain ⟨p, xs, rfl, h1, h2⟩ := seq_at a rv e
    subst ez
    refine .inl ⟨_, xs.length, rfl, ?_, by rw [h2.length]; exact q H g _ a.here rep_int⟩
    rcases h1 with h1 | h1
    · exact .inl ⟨xs, h1, rfl⟩
    · exact .inr ⟨xs, h1, rfl⟩
  have dc : ∀ ks vs, dctOf d S = some (ks, vs) → z = .int ks.length → rLenAll K [v] H Q := fun ks vs e ez => by
    have main : ∀ p o xs, v = .ref p → Rd H p o → DicOf o ks xs → rLenAll K [v] H Q := fun p o xs ev h1 h2 => by
      subst ev
      have e0 : Q (.int ks.length) H := q H g _ a.here (by rw [ez]; exact rep_int)
      rcases h2 with ⟨kvs, rfl, rfl, _⟩ | ⟨kvs, rfl, rfl, _⟩
      · rw [List.length_map] at e0; exact .inr (.inl ⟨p, kvs, rfl, h1, e0⟩)
      · rw [List.length_map] at e0; exact .inr (.inr ⟨p, kvs, rfl, h1, e0⟩)
    unfold dctOf at e
    split at e
    · cases e
      rw [Rep] at rv
      obtain ⟨p, ob, o, xs, ev, h1, _, h2, _⟩ := rv
      exact main p o xs ev (.inr ⟨ob, h1⟩) h2
    · rename_i l
      rw [Rep] at rv
      obtain ⟨p, ev, h1⟩ := rv
      split at e
      · rename_i hc
        cases e
        obtain ⟨p', h2, h3⟩ := a.cells l _ hc
        rw [h1] at h2; cases h2
        obtain ⟨o, xs, h4, _, h5, _⟩ := h3
        exact main p o xs ev (.of h4) h5
      · cases e
    · cases e
  have gen : (match seqOf d S with | some xs => some (D.int xs.length) | none => match dctOf d S with | some (ks, _) => some (D.int ks.length) | none => none) = some z → rLenAll K [v] H Q := fun hz => by
    split at hz
    · rename_i xs e; cases hz; exact sq xs e rfl
    · split at hz
      · rename_i ks vs e; cases hz; exact dc ks vs e rfl
      · cases hz
  cases d with
  | str y =>
    replace hz : (if y.length ≤ line then some (D.int y.length) else none) = some z := hz
    split at hz
    · rename_i hl
      cases hz
      rw [rv.str_inv]
      exact .inl ⟨_, y.length, rfl, ⟨by rw [line_eq]; exact hl, rfl⟩, q H g _ a.here rep_int⟩
    · cases hz
  | non => exact gen hz
  | bl _ => exact gen hz
  | int _ => exact gen hz
  | tup _ => exact gen hz
  | lst _ => exact gen hz
  | dct _ _ => exact gen hz
  | scr _ => exact gen hz
  | loc _ => exact gen hz
theorem bi_abs : CallD K (fun xs H Q => ∃ i, xs = [V.int i] ∧ Q (.int (if i < 0 then -i else i)) H) Bi.abs.ev := callD1 (bi_one (by simp)) fun H g S v d z Q a rv hz q => by
  cases d with
  | int i => cases hz; exact ⟨i, by rw [rv.int_inv], q H g _ a.here rep_int⟩
  | _ => simp [Bi.ev] at hz
theorem bi_int : CallD K (fun xs H Q => (∃ i, xs = [V.int i] ∧ Q (.int i) H) ∨ ∃ k, xs = [V.bl k] ∧ Q (.int (if k then 1 else 0)) H) Bi.int.ev := callD1 (bi_one (by simp)) fun H g S v d z Q a rv hz q => by
  cases d with
  | int i => cases hz; exact .inl ⟨i, by rw [rv.int_inv], q H g _ a.here rep_int⟩
  | bl i => cases hz; exact .inr ⟨i, by rw [rv.bl_inv], q H g _ a.here rep_int⟩
  | _ => simp [Bi.ev] at hz
theorem bi_str : CallD K (fun xs H Q => ∃ i, xs = [V.int i] ∧ i.natAbs.log2 < 1920 ∧ Q (.str (toString i)) H) Bi.str.ev := callD1 (bi_one (by simp)) fun H g S v d z Q a rv hz q => by
  cases d with
  | int i =>
    replace hz : (if i.natAbs.log2 < 1920 then some (D.str (PySem.Str.ofString (toString i))) else none) = some z := hz
    split at hz
    · rename_i hl
      cases hz
      exact ⟨i, by rw [rv.int_inv], hl, q H g _ a.here rep_str⟩
    · cases hz
  | _ => simp [Bi.ev] at hz
theorem seq_ints {v : V} {d : D} {l : List Int} (a : After K H g H g S) (rv : Rep K H g v d) (h : (seqOf d S).bind intsOf = some l) : ∃ p, v = .ref p ∧ SqA K H p (l.map V.int) := by
  cases e : seqOf d S with
  | none => rw [e] at h; cases h
  | some ds =>
    rw [e] at h
    obtain ⟨p, xs, rfl, h1, h2⟩ := seq_at a rv e
    refine ⟨p, rfl, ?_⟩
    rw [← h2.ints h]; exact h1
theorem seq_bools {v : V} {d : D} {l : List Bool} (a : After K H g H g S) (rv : Rep K H g v d) (h : (seqOf d S).bind boolsOf = some l) : ∃ p, v = .ref p ∧ SqA K H p (l.map V.bl) := by
  cases e : seqOf d S with
  | none => rw [e] at h; cases h
  | some ds =>
    rw [e] at h
    obtain ⟨p, xs, rfl, h1, h2⟩ := seq_at a rv e
    refine ⟨p, rfl, ?_⟩
    rw [← h2.bools h]; exact h1
theorem bind2 {α β γ : Type} {o : Option α} {f : α → Option β} {k : β → Option γ} {z : γ} (h : (o.bind fun x => (f x).bind k) = some z) : ∃ l, o.bind f = some l ∧ k l = some z := by
  cases o with
  | none => cases h
  | some x =>
    obtain ⟨l, h1, h2⟩ := Option.bind_eq_some_iff.mp (show (f x).bind k = some z from h)
    exact ⟨l, h1, h2⟩
theorem map2 {α β γ : Type} {o : Option α} {f : α → Option β} {k : β → γ} {z : γ} (h : (o.bind fun x => (f x).map k) = some z) : ∃ l, o.bind f = some l ∧ z = k l := by
  cases o with
  | none => cases h
  | some x =>
    obtain ⟨l, h1, h2⟩ := Option.map_eq_some_iff.mp (show (f x).map k = some z from h)
    exact ⟨l, h1, h2.symm⟩
theorem bi_sum : CallD K (rSumA K) Bi.sum.ev := callD1 (bi_one (by simp)) fun H g S v d z Q a rv hz q => by
  obtain ⟨l, h1, rfl⟩ := map2 (show ((seqOf d S).bind fun xs => (intsOf xs).map fun l => D.int l.sum) = some z from hz)
  obtain ⟨p, rfl, h2⟩ := seq_ints a rv h1
  exact ⟨p, l, rfl, h2, q H g _ a.here rep_int⟩
theorem bi_max : CallD K (rMaxA K) Bi.max.ev := callD1 (bi_one (by simp)) fun H g S v d z Q a rv hz q => by
  obtain ⟨l, h1, hz⟩ := bind2 (show ((seqOf d S).bind fun xs => (intsOf xs).bind fun l => (maxI l).map .int) = some z from hz)
  obtain ⟨p, rfl, h2⟩ := seq_ints a rv h1
  cases l with
  | nil => cases hz
  | cons n ns => cases hz; exact ⟨p, n, ns, rfl, h2, q H g _ a.here rep_int⟩
theorem bi_min : CallD K (rMinA K) Bi.min.ev := callD1 (bi_one (by simp)) fun H g S v d z Q a rv hz q => by
  obtain ⟨l, h1, hz⟩ := bind2 (show ((seqOf d S).bind fun xs => (intsOf xs).bind fun l => (minI l).map .int) = some z from hz)
  obtain ⟨p, rfl, h2⟩ := seq_ints a rv h1
  cases l with
  | nil => cases hz
  | cons n ns => cases hz; exact ⟨p, n, ns, rfl, h2, q H g _ a.here rep_int⟩
theorem bi_all : CallD K (rAllA K fun bs => bs.all id) Bi.all.ev := callD1 (bi_one (by simp)) fun H g S v d z Q a rv hz q => by
  obtain ⟨l, h1, rfl⟩ := map2 (show ((seqOf d S).bind fun xs => (boolsOf xs).map fun l => D.bl (l.all id)) = some z from hz)
  obtain ⟨p, rfl, h2⟩ := seq_bools a rv h1
  exact ⟨p, l, rfl, h2, q H g _ a.here rep_bl⟩
theorem bi_any : CallD K (rAllA K fun bs => bs.any id) Bi.any.ev := callD1 (bi_one (by simp)) fun H g S v d z Q a rv hz q => by
  obtain ⟨l, h1, rfl⟩ := map2 (show ((seqOf d S).bind fun xs => (boolsOf xs).map fun l => D.bl (l.any id)) = some z from hz)
  obtain ⟨p, rfl, h2⟩ := seq_bools a rv h1
  exact ⟨p, l, rfl, h2, q H g _ a.here rep_bl⟩
theorem bi_tuple : CallD K (fun xs H Q => ∃ p ys, xs = [.ref p] ∧ ((SqL K H p ys ∧ ∀ l, H l = none → Q (.ref l) (upd H l (.tup ys))) ∨ (SqT K H p ys ∧ Q (.ref p) H))) Bi.tuple.ev := callD1 (bi_one (by simp)) fun H g S v d z Q a rv hz q => by
  obtain ⟨ds, h1, rfl⟩ := Option.map_eq_some_iff.mp (show (seqOf d S).map (fun xs => D.tup xs) = some z from hz)
  obtain ⟨p, xs, rfl, h2, h3⟩ := seq_at a rv h1
  refine ⟨p, xs, rfl, ?_⟩
  rcases h2 with h2 | h2
  · exact .inl ⟨h2, fun l hl => q _ _ _ (a.here.laid hl _) (new_tup a.here hl h3)⟩
  · exact .inr ⟨h2, q H g _ a.here (rep_tup h2 h3)⟩
theorem fact_fold (n : Nat) : ((Builtin.Math.factorialNat n : Nat) : Int) = (List.range n).foldl (fun (a : Int) (k : Nat) => a * ((k : Int) + 1)) 1 := by
  unfold Builtin.Math.factorialNat
  have : ∀ (l : List Nat) (p : Nat), ((l.foldl (fun (p i : Nat) => p * (i + 1)) p : Nat) : Int) = l.foldl (fun (a : Int) (k : Nat) => a * ((k : Int) + 1)) (p : Int) := by
    intro l
    induction l with
    | nil => intro p; rfl
    | cons x l ih => intro p; rw [List.foldl_cons, List.foldl_cons, ih]; simp
  exact this _ 1
theorem bi_fact : CallD K rFact Bi.factorial.ev := callD1 (bi_one (by simp)) fun H g S v d z Q a rv hz q => by
  cases d with
  | int i =>
    replace hz : (if 0 ≤ i ∧ i ≤ 20 then some (D.int ((List.range i.toNat).foldl (fun (a : Int) (k : Nat) => a * ((k : Int) + 1)) 1)) else none) = some z := hz
    split at hz
    · rename_i hl
      cases hz
      refine ⟨i, by rw [rv.int_inv], hl.1, hl.2, ?_⟩
      rw [fact_fold]
      exact q H g _ a.here rep_int
    · cases hz
  | _ => simp [Bi.ev] at hz
theorem bi_two {b : Bi} {f : Int → Int → Int} (hb : ∀ ds S z, b.ev ds S = some z → ∃ i j, ds = [.int i, .int j] ∧ z = .int (f i j)) : CallD K (fun xs H Q => ∃ i j, xs = [V.int i, V.int j] ∧ Q (.int (f i j)) H) b.ev := by
  intro H g S xs ds z Q a rs hz q
  obtain ⟨i, j, rfl, rfl⟩ := hb ds S z hz
  obtain ⟨v, u, rfl, h1, h2⟩ := reps_two rs
  exact ⟨i, j, by rw [h1.int_inv, h2.int_inv], q H g _ a.here rep_int⟩
theorem bi_max2 : CallD K (fun xs H Q => ∃ i j, xs = [V.int i, V.int j] ∧ Q (.int (if j > i then j else i)) H) Bi.max2.ev := bi_two fun ds S z h => by
  match ds with
  | [.int i, .int j] => cases h; exact ⟨i, j, rfl, rfl⟩
  | [] => simp [Bi.ev] at h
  | [_] => simp [Bi.ev] at h
  | _ :: _ :: _ :: _ => simp [Bi.ev] at h
  | [a, b] => cases a <;> cases b <;> first | (simp [Bi.ev] at h; done) | (cases h; exact ⟨_, _, rfl, rfl⟩)
theorem bi_min2 : CallD K (fun xs H Q => ∃ i j, xs = [V.int i, V.int j] ∧ Q (.int (if j < i then j else i)) H) Bi.min2.ev := bi_two fun ds S z h => by
  match ds with
  | [.int i, .int j] => cases h; exact ⟨i, j, rfl, rfl⟩
  | [] => simp [Bi.ev] at h
  | [_] => simp [Bi.ev] at h
  | _ :: _ :: _ :: _ => simp [Bi.ev] at h
  | [a, b] => cases a <;> cases b <;> first | (simp [Bi.ev] at h; done) | (cases h; exact ⟨_, _, rfl, rfl⟩)
end
section
variable {X : L2.Cx} {ct : CT} {W : WX} {a b : Expr} {ma mb : Env → M D} {pos p : Pos}
abbrev DK (X : L2.Cx) (ct : CT) (W : WX) (e : List Keyword) (m : Env → M (List D)) : Prop := PK X e (TAv X.K ct W m)
theorem _root_.L2.PK.imp {X : L2.Cx} {e : List Keyword} {t t' : TA} (h : PK X e t) (i : ∀ σ H Q, t' σ H Q → t σ H Q) : PK X e t' := ⟨fun pos pins s σ H Q I q => h.run pos pins s σ H Q I (i σ H Q q)⟩
theorem dk_nil : DK X ct W [] (fun _ => ret []) := L2.PK.imp pk_nil fun σ H Q ⟨g, ρ, S, r, h⟩ => h H g [] r.self reps_nil
theorem dk_cons {nm : Option Str} {q : Pos} {kws : List Keyword} {ms : Env → M (List D)} (ha : DE X ct W a ma) (hs : DK X ct W kws ms) :
    DK X ct W (⟨nm, a, q⟩ :: kws) (fun ρ => bnd (ma ρ) fun x => bnd (ms ρ) fun xs => ret (x :: xs)) := by
  refine (pk_cons ha hs).imp fun σ H Q ⟨g, ρ, S, r, h⟩ => ?_
  refine ⟨g, ρ, S, r, (Out.bi (RA := RD X.K) h).mono fun v H1 ⟨g1, d, S1, af, rv, h1⟩ => ?_⟩
  refine ⟨g1, ρ, S1, r.after af, (Out.bi (RA := RDs X.K) h1).mono fun vs H2 ⟨g2, ds, S2, af2, rvs, h2⟩ => ?_⟩
  exact h2 H2 g2 (v :: vs) ⟨Ext.refl, af2.ok, af2.cl, af2.cells⟩ (reps_cons (rv.ext af2.ext af.ok) rvs)
/-- max(a, default=z) -/
theorem de_maxd {q : Pos} (hc : X.calm = true) (hu : X.A.units + 64 < cLine) (hg : Gl X "max") (hm : X.mg "max" = none) (ha : DE X ct W a ma) (hb : DE X ct W b mb) (he : noStar [a] = true) :
    DE X ct W (.Call (.Name "max" p) [a] [⟨some "default", b, q⟩] pos) (fun ρ => bnd (ma ρ) fun x => bnd (mb ρ) fun y => look (Bi.maxd.ev [x, y])) := by
  refine (pe_callBK (t := tCons (TEv X.K ct W ma) tNil) (tk := tCons (TEv X.K ct W mb) tNil) (cr_maxD hc hu) hg hm (by decide +kernel) (pa_cons ha pa_nil (star_cons he)) (pk_cons hb pk_nil) (by decide) (by decide) (by rw [star_cons he]; rfl) (star_any he)).imp fun σ H Q ⟨g, ρ, S, r, h⟩ => ?_
  refine ⟨g, ρ, S, r, (Out.bi (RA := RD X.K) h).mono fun v H1 ⟨g1, d, S1, af, rv, h1⟩ => ?_⟩
  refine ⟨g1, ρ, S1, r.after af, (Out.bi (RA := RD X.K) h1).mono fun u H2 ⟨g2, e, S2, af2, ru, h2⟩ => ?_⟩
  obtain ⟨z, hz, h3⟩ := Out.lk1 h2
  cases e with
  | int k =>
    obtain ⟨l, h4, rfl⟩ := map2 (show ((seqOf d S2).bind fun xs => (intsOf xs).map fun l => D.int ((maxI l).getD k)) = some z from hz)
    obtain ⟨p, rfl, h5⟩ := seq_ints af2.here (rv.ext af2.ext af.ok) h4
    refine ⟨p, l, k, rfl, by rw [ru.int_inv], h5, ?_⟩
    have := h3 H2 g2 _ af2.here rep_int
    cases l with
    | nil => exact this
    | cons n ns => exact this
  | _ => simp [Bi.ev] at hz
end
end Mini

set_option maxHeartbeats 4000000
/-! MINI, part 12: starred items, places, slices, methods of lists. -/
namespace L2
open PySem PySem.Spec PyProof.Rows
section
variable {X : Cx} {a : Expr} {es : List Expr} {ta : TE} {t : TA} {p : Pos}
/-- *a, ..: the items of a list, a tuple -/
def tStar (K : PySem.W.Frag) (ta : TE) (t : TA) : TA := fun σ H Q => ta σ H fun x H1 => ∃ q ys, x = .ref q ∧ SqA K H1 q ys ∧ t σ H1 fun xs H2 => Q (ys ++ xs) H2
theorem pa_star (ha : PE X a ta) (hr : PA X es t) : PA X (.Starred a p :: es) (tStar X.K ta t) := by
  refine ⟨fun pos pins s σ H Q I h => ?_⟩
  refine PySem.W.items_star (thn (ha.run pins s σ H _ I h) fun u s1 ⟨x, H1, I1, r1, q, ys, ex, hs, q1⟩ => ?_) rfl
  subst ex
  obtain rfl : u = Value.ref q := r1
  have key : ∀ {T : String} {o : Obj} {its : List Value} {n : Nat}, (T = "list" ∨ T = "tuple") → s1.heap.get? q = some o → o.cls = .type T → o.data = .seq its.toArray n → its.length ≤ sizeLine → Vals ys its →
      PySem.W.StarOf (model X.prog X.w) X.A X.xe (.ref q) (fun here s₂ => wpAny (model X.prog X.w) X.A (spliced (backTo pos (starEach es X.env))) (fun vs s₃ => AP X pins σ Q (here ++ vs) s₃) X.xe s₂) s1 := by
    intro T o its n hT ho hc hd hz hv
    have z : wpAny (model X.prog X.w) X.A (collect (.ref q)) (fun here s₂ => wpAny (model X.prog X.w) X.A (spliced (backTo pos (starEach es X.env))) (fun vs s₃ => AP X pins σ Q (here ++ vs) s₃) X.xe s₂) X.xe s1 := by
      refine wpAny_collect_seq q hT ho hc hd (fun h' hk => ?_) (by simpa using hz)
      have I2 : Inv X pins σ H1 { s1 with heap := h' } := I1.kept (t' := s1.toks) hk
      exact thn (hr.run pos pins _ σ H1 _ I2 q1) fun us s2 ⟨xs, H2, I3, r2, q2⟩ => ⟨ys ++ xs, H2, I3, hv.append r2, q2⟩
    unfold PySem.W.StarOf notIterableAtAll
    rcases hT with rfl | rfl
    · exact wpAny_bind (wpAny_specialOf ⟨o, ho, hc⟩ PySem.F.slot_list_iter.lookup (wpAny_pure ⟨rfl, z⟩))
    · exact wpAny_bind (wpAny_specialOf ⟨o, ho, hc⟩ PySem.F.slot_tuple_iter.lookup (wpAny_pure ⟨rfl, z⟩))
  rcases hs with hs | hs
  · obtain ⟨its, r, ⟨o, n, e1, e2, e3, e4⟩, z⟩ := I1.list hs
    exact key (.inl rfl) e1 e2 e4 (by rw [← r.length]; exact z) r
  · obtain ⟨its, r, ⟨o, e1, e2, n, e3⟩, z⟩ := I1.tuple hs
    exact key (.inr rfl) e1 e2 e3 (by rw [← r.length]; exact z) r
end
end L2
namespace Mini
open PySem PySem.Spec PyProof.Rows L2
section
variable {X : L2.Cx} {ct : CT} {W : WX} {a b c : Expr} {ma mb mc : Env → M D} {es : List Expr} {ms : Env → M (List D)} {pos p : Pos}
theorem da_star (ha : DE X ct W a ma) (hs : DA X ct W es ms) : DA X ct W (.Starred a p :: es) (fun ρ => bnd (ma ρ) fun x => bnd (look (seqOf x)) fun xs => bnd (ms ρ) fun ys => ret (xs ++ ys)) := by
  refine (pa_star ha hs).imp fun σ H Q ⟨g, ρ, S, r, h⟩ => ?_
  refine ⟨g, ρ, S, r, (Out.bi (RA := RD X.K) h).mono fun v H1 ⟨g1, d, S1, af, rv, h1⟩ => ?_⟩
  obtain ⟨ds, hd, h2⟩ := Out.lk h1
  obtain ⟨q, ys, rfl, hq, rys⟩ := seq_at af.here rv hd
  refine ⟨q, ys, rfl, hq, g1, ρ, S1, r.after af, (Out.bi (RA := RDs X.K) h2).mono fun vs H2 ⟨g2, es, S2, af2, rvs, h3⟩ => ?_⟩
  exact h3 H2 g2 (ys ++ vs) af2.here ((rys.ext af2.ext af.ok).append rvs)
/-! ### a[i] -/
theorem ixN_eq (n : Nat) (i : Int) : L2.ixN n i = ixN n i := rfl
theorem ixN_lt {n : Nat} {i : Int} {j : Nat} (h : ixN n i = some j) : j < n := (L2.ixN_seq (show L2.ixN n i = some j from h)).2.1
theorem atI_rep {K : Frag} {H : Hp} {g : Gh} {xs : List V} {ds : List D} {i : Int} {d : D} (r : Reps K H g xs ds) (h : atI ds i = some d) : ∃ v, L2.atI xs i = some v ∧ Rep K H g v d := by
  obtain ⟨j, h1, h2⟩ := Option.bind_eq_some_iff.mp h
  obtain ⟨v, h3, h4⟩ := r.get h2
  refine ⟨v, ?_, h4⟩
  show (L2.ixN xs.length i).bind _ = _
  rw [show L2.ixN xs.length i = some j from by rw [r.length]; exact h1]
  exact h3
theorem opD_ix {K : Frag} : OpD K (rIx K) ixD := by
  intro H g S x y d e z Q a rx ry hz q
  unfold ixD at hz
  split at hz
  · rename_i xs i hs
    obtain ⟨p, vs, rfl, h1, h2⟩ := seq_at a rx hs
    obtain ⟨v, h3, h4⟩ := atI_rep h2 hz
    have fin := q H g v a.here h4
    rcases h1 with h1 | h1
    · exact .inl ⟨p, vs, i, v, rfl, ry.int_inv, h1, h3, fin⟩
    · exact .inr (.inl ⟨p, vs, i, v, rfl, ry.int_inv, h1, h3, fin⟩)
  · cases hz
  · split at hz
    · rename_i y i _
      split at hz
      · rename_i hl
        obtain ⟨c, h1, rfl⟩ := Option.map_eq_some_iff.mp hz
        exact .inr (.inr ⟨y, i, c, rx.str_inv, ry.int_inv, by rw [line_eq]; exact hl, h1, q H g _ a.here rep_str⟩)
      · cases hz
    · cases hz
theorem de_ix (ha : DE X ct W a ma) (hb : DE X ct W b mb) (hs : PlainIx b) : DE X ct W (.Subscript a b pos) (fun ρ => bnd (ma ρ) fun x => bnd (mb ρ) fun y => look (ixD x y)) := by
  refine (pe_ix ix_seq ha hb hs).imp fun σ H Q ⟨g, ρ, S, r, h⟩ => ?_
  refine ⟨g, ρ, S, r, (Out.bi (RA := RD X.K) h).mono fun v H1 ⟨g1, d, S1, af, rv, h1⟩ => ?_⟩
  refine ⟨g1, ρ, S1, r.after af, (Out.bi (RA := RD X.K) h1).mono fun u H2 ⟨g2, e, S2, af2, ru, h2⟩ => ?_⟩
  obtain ⟨z, hz, h3⟩ := Out.lk1 h2
  exact opD_ix H2 g2 S2 v u d e z Q af2.here (rv.ext af2.ext af.ok) ru hz h3
/-! ### slices -/
abbrev RO? : Hp → Gh → Option Int → Option Int → Prop := fun _ _ b a => b = a
def TOv (K : Frag) (ct : CT) (W : WX) (m : Env → M (Option Int)) : TO := fun σ H Q => ∃ g ρ S, Rel K g σ H ρ S ∧ Out K ct H g (fun c d H' => W c d σ H') RO? Q (m ρ S)
abbrev DO (X : L2.Cx) (ct : CT) (W : WX) (e : Option Expr) (m : Env → M (Option Int)) : Prop := PO X e (TOv X.K ct W m)
theorem _root_.L2.PO.imp {X : L2.Cx} {e : Option Expr} {t t' : TO} (h : PO X e t) (i : ∀ σ H Q, t' σ H Q → t σ H Q) : PO X e t' := ⟨fun pins s σ H Q I q => h.run pins s σ H Q I (i σ H Q q)⟩
theorem do_none : DO X ct W none (fun _ => ret none) := L2.PO.imp po_none fun σ H Q ⟨g, ρ, S, r, h⟩ => h H g none r.self rfl
theorem do_some (ha : DE X ct W a ma) : DO X ct W (some a) (fun ρ => bnd (ma ρ) fun x => bnd (lift (asInt x)) fun i => ret (some i)) := by
  refine (po_some ha).imp fun σ H Q ⟨g, ρ, S, r, h⟩ => ?_
  refine ⟨g, ρ, S, r, (Out.bi (RA := RD X.K) h).mono fun v H1 ⟨g1, d, S1, af, rv, h1⟩ => ?_⟩
  obtain ⟨i, hi, h2⟩ := Out.lf h1
  cases d with
  | int j => cases hi; exact ⟨_, rv.int_inv, h2 H1 g1 _ af.here rfl⟩
  | _ => cases hi
theorem cut_eq {α : Type} (xs : List α) (lo hi : Option Int) : cut xs lo hi = (xs.drop (HT.sIx xs.length 0 lo)).take (HT.sIx xs.length xs.length hi - HT.sIx xs.length 0 lo) := rfl
theorem sIx_eq (n d : Nat) (o : Option Int) : HT.sIx n d o = sIx n d o := rfl
theorem cut_rep {K : Frag} {H : Hp} {g : Gh} {xs : List V} {ds : List D} (lo hi : Option Int) (r : Reps K H g xs ds) : Reps K H g (cutV xs lo hi) (cut ds lo hi) := by
  unfold cutV
  rw [cut_eq, r.length]
  exact (r.drop _).take _
theorem cut_whole {α : Type} {xs : List α} {lo hi : Option Int} (h : HT.sIx xs.length 0 lo = 0 ∧ HT.sIx xs.length xs.length hi = xs.length) : cut xs lo hi = xs := by
  rw [cut_eq, h.1, h.2]
  simp
variable {lo hi : Option Expr} {ml mh : Env → M (Option Int)} {p2 : Pos}
/-- what a slice's rule must do -/
def SlD (K : Frag) (r : V → Option Int → Option Int → Hp → VK → Prop) (f : D → Option Int → Option Int → Store → Option D) : Prop :=
  ∀ (H : Hp) (g : Gh) (S : Store) (x : V) (lo hi : Option Int) (d z : D) (Q : VK), After K H g H g S → Rep K H g x d → f d lo hi S = some z → (∀ H' g' v, After K H g H' g' S → Rep K H' g' v z → Q v H') → r x lo hi H Q
def rSlAll (K : Frag) : V → Option Int → Option Int → Hp → VK → Prop := fun x lo hi H Q => rSlA K x lo hi H Q ∨ rSlS x lo hi H Q
theorem slD_all {K : Frag} : SlD K (rSlAll K) slcD := by
  intro H g S x lo hi d z Q a rx hz q
  unfold slcD at hz
  split at hz
  · rename_i ds
    cases hz
    obtain ⟨p, xs, rfl, h1, h2⟩ := rx.tup_inv
    refine .inl ⟨p, xs, rfl, h1, fun hw => ?_, fun _ l hl => ?_⟩
    · rw [h2.length] at hw
      rw [cut_whole hw] at q
      exact q H g _ a.here rx
    · exact q _ _ _ (a.here.laid hl _) (new_tup a.here hl (cut_rep lo hi h2))
  · rename_i y
    split at hz
    · rename_i hl
      cases hz
      exact .inr ⟨y, rx.str_inv, by rw [line_eq]; exact hl, q H g _ a.here rep_str⟩
    · cases hz
  · cases hz
theorem de_slc (ha : DE X ct W a ma) (hl : DO X ct W lo ml) (hh : DO X ct W hi mh) : DE X ct W (.Subscript a (.Slice lo hi none p2) pos) (fun ρ => bnd (ma ρ) fun x => bnd (ml ρ) fun l => bnd (mh ρ) fun h => look (slcD x l h)) := by
  refine (pe_slice (SlR.or sl_tupA sl_str) ha hl hh).imp fun σ H Q ⟨g, ρ, S, r, h⟩ => ?_
  refine ⟨g, ρ, S, r, (Out.bi (RA := RD X.K) h).mono fun v H1 ⟨g1, d, S1, af, rv, h1⟩ => ?_⟩
  refine ⟨g1, ρ, S1, r.after af, (Out.bi (RA := RO?) h1).mono fun l H2 ⟨g2, l', S2, af2, rl, h2⟩ => ?_⟩
  refine ⟨g2, ρ, S2, (r.after af).after af2, (Out.bi (RA := RO?) h2).mono fun u H3 ⟨g3, u', S3, af3, ru, h3⟩ => ?_⟩
  obtain ⟨z, hz, h4⟩ := Out.lk1 h3
  cases (show l = l' from rl)
  cases (show u = u' from ru)
  exact slD_all H3 g3 S3 v l u d z Q af3.here ((rv.ext af2.ext af.ok).ext af3.ext af2.ok) hz h4
theorem Out.last2 {α β γ δ : Type} {K : Frag} {ct : CT} {H H1 : Hp} {g g1 : Gh} {W : Value → Option Addr → Hp → Prop} {RA : Hp → Gh → β → α → Prop} {RC : Hp → Gh → δ → γ → Prop} {Q : δ → Hp → Prop} {Q1 : β → Hp → Prop} {m : M α} {k : α → M γ} {S1 : Store}
    (af : After K H g H1 g1 S1) (h : Out K ct H g W RC Q (bnd m k S1)) (i : ∀ H2 g2 b a S2, After K H g H2 g2 S2 → After K H1 g1 H2 g2 S2 → RA H2 g2 b a → Out K ct H g W RC Q (k a S2) → Q1 b H2) : Out K ct H1 g1 W RA Q1 (m S1) := by
  unfold Mini.bnd at h
  cases e : m S1 with
  | ok a S2 => rw [e] at h; exact fun H2 g2 b af2 ra => i H2 g2 b a S2 (af.trans af2) af2 ra h
  | err c fs S2 => rw [e] at h; exact fun H' g' cl dd a2 r2 => h H' g' cl dd (af.trans a2) r2
  | bad => rw [e] at h; exact h
/-- of a list -/
theorem df_slice (ha : DE X ct W a ma) (hl : DO X ct W lo ml) (hh : DO X ct W hi mh) : DF X ct W (.Subscript a (.Slice lo hi none p2) pos) (fun ρ => bnd (ma ρ) fun x => bnd (ml ρ) fun l => bnd (mh ρ) fun h => bnd (look (slcOf x)) fun xs => ret (.l (cut xs l h))) := by
  refine (pe_slice sl_list ha hl hh).imp fun σ H Q ⟨g, ρ, S, r, h⟩ => ?_
  refine ⟨g, ρ, S, r, Out.last (RA := RD X.K) h fun H1 g1 v d S1 af rv h1 => ?_⟩
  refine ⟨g1, ρ, S1, r.after af, Out.last2 (RA := RO?) af h1 fun H2 g2 l l' S2 aw2 af2 rl h2 => ?_⟩
  refine ⟨g2, ρ, S2, (r.after af).after af2, Out.last2 (RA := RO?) aw2 h2 fun H3 g3 u u' S3 aw3 af3 ru h3 => ?_⟩
  obtain ⟨ds, hz, h4⟩ := Out.lk h3
  cases (show l = l' from rl)
  cases (show u = u' from ru)
  obtain ⟨q, xs, rfl, hq, rx⟩ := slc_at af3.here ((rv.ext af2.ext af.ok).ext af3.ext af2.ok) hz
  refine ⟨q, xs, rfl, hq, fun p hp => ?_⟩
  obtain ⟨aw4, ro⟩ := ro_list aw3 hp (cut_rep l u rx)
  exact h4 _ _ _ aw4 ro
end
/-! ### a cell is written -/
section
variable {K : Frag} {H : Hp} {g : Gh} {S : Store}
theorem Mon.wrote {p : Addr} {o : HO} (h : p ∈ g.μ) : Mon H g (upd H p o) g := ⟨fun _ f => f, ⟨[], by simp⟩, fun a u e nm => by rw [upd_ne (fun (q : a = p) => nm (by rw [q]; exact h))]; exact e⟩
theorem After.wrote (a : After K H g H g S) {l : Nat} {p : Addr} {o : HO} {c : Cell} (hl : g.μ[l]? = some p) (mo : MutO o) (hc : CellOk K (upd H p o) g p c) : After K H g (upd H p o) g (S.set l c) := by
  have hm := List.mem_of_getElem? hl
  refine ⟨⟨fun _ f => f, ⟨[], by simp, by simp⟩, (Mon.wrote hm).keep, fun _ f => .inl f⟩, ⟨fun x f => ?_, fun x m => ?_, a.ok.nd⟩, by rw [List.length_set]; exact a.cl, fun i d hd => ?_⟩
  · obtain ⟨⟨u, h⟩, n⟩ := a.ok.fz x f
    exact ⟨⟨u, by rw [upd_ne (fun (q : x = p) => n (by rw [q]; exact hm))]; exact h⟩, n⟩
  · by_cases e : x = p
    · subst e; exact ⟨o, upd_same, mo⟩
    · obtain ⟨u, h, m2⟩ := a.ok.mu x m
      exact ⟨u, by rw [upd_ne e]; exact h, m2⟩
  · by_cases e : l = i
    · subst e
      have hlen := (List.getElem?_eq_some_iff.mp hd).1
      rw [List.length_set] at hlen
      rw [List.getElem?_set_self hlen] at hd
      cases hd
      exact ⟨p, hl, hc⟩
    · rw [List.getElem?_set_ne e] at hd
      obtain ⟨x, h1, h2⟩ := a.cells i d hd
      refine ⟨x, h1, h2.mon (Mon.wrote hm) a.ok (upd_ne fun q => ?_)⟩
      subst q
      have h3 := (List.getElem?_eq_some_iff.mp hl)
      have h4 := (List.getElem?_eq_some_iff.mp h1)
      exact e ((List.getElem_inj a.ok.nd).mp (h3.2.trans h4.2.symm))
theorem After.wroteL (a : After K H g H g S) {l : Nat} {p : Addr} {xs : List V} {ds : List D} (hl : g.μ[l]? = some p) (r : Reps K H g xs ds) : After K H g (upd H p (.lst xs)) g (S.set l (.lst ds)) :=
  a.wrote hl trivial ⟨xs, upd_same, r.mon (Mon.wrote (List.mem_of_getElem? hl)) a.ok⟩
theorem cell_at (a : After K H g H g S) {v : V} {l : Nat} {ds : List D} (r : Rep K H g v (.loc l)) (h : S[l]? = some (.lst ds)) : ∃ p xs, v = .ref p ∧ g.μ[l]? = some p ∧ H p = some (.lst xs) ∧ Reps K H g xs ds := by
  rw [Rep] at r
  obtain ⟨p, e, h1⟩ := r
  obtain ⟨p', h2, xs, h3, h4⟩ := a.cells l _ h
  rw [h1] at h2; cases h2
  exact ⟨p, xs, e, h1, h3, h4⟩
end
end Mini

set_option maxHeartbeats 4000000
/-! MINI, part 13: methods of lists, list(x), lists put together. -/
namespace L2
open PySem PySem.Spec PyProof.Rows Mini
section
variable {X : Cx} {pins : List (Addr × Obj)} {σ : St} {H : Hp} {s : Shared}
theorem Inv.exl {l : Addr} {xs : List V} (I : Inv X pins σ H s) (h : ExL X.K H l xs) : xs.length ≤ sizeLine ∧ ∃ (its : List Value) (n : Nat), Vals xs its ∧ xs.length = its.length ∧ s.heap.get? l = some { cls := .type "list", data := .seq its.toArray n } := by
  rcases h with h | ⟨its, n, h, z, r⟩
  · obtain ⟨z, its, n, r, e⟩ := h.ok I.hok
    exact ⟨z, its, n, r, r.length, e⟩
  · exact ⟨by rw [r.length]; simpa using z, its.toList, n, r, r.length, by simpa using I.kIn l _ h⟩
def rExtendA (K : PySem.W.Frag) : V → List V → Hp → VK → Prop := fun x vs H Q => ∃ l b xs zs, x = .ref l ∧ vs = [.ref b] ∧ H l = some (.lst xs) ∧ ExL K H b zs ∧ xs.length + zs.length ≤ sizeLine ∧ Q .non (upd H l (.lst (xs ++ zs)))
theorem mt_extendA : MtM X "list.extend" (rExtendA X.K) := by
  intro pins s σ H x vs v us Q I rx rv h
  obtain ⟨l, b, xs, zs, rfl, rfl, hH, hB, hz, q⟩ := h
  cases rx
  obtain ⟨u, rfl, ru⟩ := rv.one
  cases ru
  obtain ⟨z, its, n, r, hl, e⟩ := I.lstM hH
  obtain ⟨z2, its2, n2, r2, hl2, e2⟩ := I.exl hB
  have hsz : its.toArray.size + its2.toArray.size ≤ sizeLine := by rw [List.size_toArray, List.size_toArray]; omega
  have hlong : ¬ (!its.toArray.isEmpty && Builtin.List.listTooLong (its.toArray.size + its2.toArray.size)) = true := by
    rw [notLongL hsz, Bool.and_false]
    exact Bool.false_ne_true
  refine call_meets F.slot_list_extend ⟨_, e, rfl⟩ F.entry_list_extend (F.args_list_extend_2 _ _)
    (AutoSeq1.list_extend_list_list_0 l its.toArray n b its2.toArray n2 hlong (by rw [List.size_toArray]; omega) (by omega)) ⟨e, e2, ?_⟩
  refine ⟨.non, _, I.lset (its' := its ++ its2) hH e (by simp) (r.append r2) ?_, rfl, q⟩
  rw [List.length_append]
  omega
def rCatL (K : PySem.W.Frag) : R2 := fun x y H Q => ∃ l b xs zs, x = .ref l ∧ y = .ref b ∧ ExL K H l xs ∧ ExL K H b zs ∧ xs.length + zs.length ≤ sizeLine ∧ ∀ p, H p = none → Q (.ref p) (upd H p (.lst (xs ++ zs)))
theorem op_catL : OpR X (binaryOp .Add) (rCatL X.K) := by
  intro pins s σ H x y v u Q I rx ry h
  obtain ⟨l, b, xs, zs, rfl, rfl, hH, hB, hz, q⟩ := h
  cases rx
  cases ry
  obtain ⟨z, its, n, r, hl, e⟩ := I.exl hH
  obtain ⟨z2, its2, n2, r2, hl2, e2⟩ := I.exl hB
  refine PySem.P.add_list e e2 ?_ (by rw [List.size_toArray, List.size_toArray]; omega)
  have ea : its.toArray ++ its2.toArray = (its ++ its2).toArray := by simp
  rw [ea]
  exact ⟨.ref _, _, I.lnew (t' := s.toks) (r.append r2) (by rw [List.length_append]; omega), rfl, q _ I.fresh⟩
def rRepL (K : PySem.W.Frag) : R2 := fun x y H Q => ∃ l k xs, x = .ref l ∧ y = .int k ∧ ExL K H l xs ∧ -(2 ^ 63) ≤ k ∧ k < 2 ^ 63 ∧ xs.length * k.toNat ≤ sizeLine ∧
  ∀ p, H p = none → Q (.ref p) (upd H p (.lst (List.replicate k.toNat xs).flatten))
theorem op_repL : OpR X (binaryOp .Mult) (rRepL X.K) := by
  intro pins s σ H x y v u Q I rx ry h
  obtain ⟨l, k, xs, rfl, rfl, hH, h1, h2, hz, q⟩ := h
  cases rx
  obtain ⟨t, rfl⟩ := ry
  obtain ⟨z, its, n, r, hl, e⟩ := I.exl hH
  have hlen : its.toArray.size * k.toNat ≤ sizeLine := by rw [List.size_toArray, ← hl]; exact hz
  have hcap : ¬ its.toArray.size * k.toNat > (2 ^ 63 - 1) / 8 := by
    have : (sizeLine : Nat) ≤ (2 ^ 63 - 1) / 8 := by decide
    omega
  have hfit : ¬ (!Builtin.List.listFitsIndex k) = true := by
    rw [fitsIndex_both h1 h2]
    exact Bool.false_ne_true
  have hlong : ¬ Builtin.List.listTooLong (its.toArray.size * k.toNat) = true := by
    rw [notLongL hlen]
    exact Bool.false_ne_true
  have hnew : List.foldl (fun x1 x2 => x1 ++ x2) #[] (List.replicate (if its.toArray.isEmpty = true then 0 else k.toNat) its.toArray) = (List.replicate k.toNat its).flatten.toArray := by
    have f0 : ∀ m : Nat, List.foldl (fun x1 x2 => x1 ++ x2) #[] (List.replicate m its.toArray) = (List.replicate m its).flatten.toArray := fun m => by
      have := foldl_rep its m []
      rw [List.nil_append] at this
      exact this
    rw [f0]
    cases its with
    | nil => simp
    | cons a r' => rw [if_neg (by simp)]
  refine wpAny_binaryOp_repeat_ref (T := "list") (U := "int") (by decide) ⟨_, e, rfl⟩ (fun s' => typeIs_int s' k t) noFill_list_mul F.fills_int_mul F.slot_int_rmul repeat_list F.slot_int_index.lookup
    (call_meets F.slot_int_rmul (typeIs_int s k t) F.entry_int_rmul (F.args_int_rmul_2 _ _) (int___rmul___int_list k t l its.toArray n)
      ⟨e, rfl, ⟨_, e, rfl⟩, call_meets F.slot_list_mul ⟨_, e, rfl⟩ F.entry_list_mul (F.args_list_mul_2 _ _) (AutoListH.list___mul___list_int_3 l its.toArray n k t hfit hcap hlong) ⟨e, ?_⟩⟩)
  rw [hnew]
  exact ⟨.ref _, _, I.lnew (t' := s.toks) (r.rep k.toNat) (by rw [PyProof.Rows.lm_len_rep_flat, Nat.mul_comm]; exact hz), rfl, q _ I.fresh⟩
end
end L2
namespace Mini
open PySem PySem.Spec PyProof.Rows L2
section
variable {X : L2.Cx} {ct : CT} {W : WX} {a b o : Expr} {ma mb mo : Env → M D} {es : List Expr} {ms : Env → M (List D)} {pos p apos : Pos}
/-- what a method's rule must do -/
def MtD (K : Frag) (r : V → List V → Hp → VK → Prop) (m : Mt) : Prop :=
  ∀ (H : Hp) (g : Gh) (S : Store) (x : V) (vs : List V) (d : D) (ds : List D) (z : D) (S' : Store) (Q : VK), After K H g H g S → Rep K H g x d → Reps K H g vs ds → mthD m d ds S = .ok z S' →
    (∀ H' g' v, After K H g H' g' S' → Rep K H' g' v z → Q v H') → r x vs H Q
theorem mthD_err {m : Mt} {d : D} {ds : List D} {S S' : Store} {c : Nat} {fs : List D} : mthD m d ds S ≠ .err c fs S' := by
  unfold mthD
  intro h
  split at h
  · rename_i l
    split at h
    · split at h
      · split at h
        · split at h <;> cases h
        · cases h
      · split at h <;> cases h
    · cases h
  · cases h
theorem tyL {K : Frag} {H : Hp} {q : Addr} {xs : List V} (h : SqL K H q xs) : tyV K "list" (.ref q) H := .inl ⟨rfl, xs, h⟩
theorem mt_out {m : Mt} {r : V → List V → Hp → VK → Prop} (hd : MtD X.K r m) {H0 H : Hp} {g0 g : Gh} {S : Store} {v : V} {d : D} {vs : List V} {ds : List D} {Wx : Value → Option Addr → Hp → Prop} {Q : VK}
    (a : After X.K H g H g S) (rv : Rep X.K H g v d) (rs : Reps X.K H g vs ds) (h : Out X.K ct H g Wx (RD X.K) Q (mthD m d ds S)) : r v vs H Q := by
  cases e : mthD m d ds S with
  | ok z S' => rw [e] at h; exact hd H g S v vs d ds z S' Q a rv rs e h
  | err c fs S' => exact absurd e mthD_err
  | bad => rw [e] at h; exact h.elim
theorem de_mth {m : Mt} {id : String} {name : Str} {r : V → List V → Hp → VK → Prop} (slot : PySem.Slot "list" name id) (hty : typeOf (.builtin id) = pure (.type "method_descriptor")) (hm : MtR X id r) (hd : MtD X.K r m) (ho : DE X ct W o mo) (ha : DA X ct W (a :: es) ms)
    (hbase : attributeBase o name X.env (eval o X.env) = eval o X.env) (hline : (apos.endLine == p.line) = true) (hn : noStar (a :: es) = true) (hlen : decide ((a :: es).length + 0 + 0 < 30) = true) :
    DE X ct W (.Call (.Attribute o name apos) (a :: es) [] p) (fun ρ => bnd (mo ρ) fun x => bnd (look (lstOf x)) fun _ => bnd (ms ρ) fun ds => mthD m x ds) := by
  have hall : (backTo p (starEach (a :: es) X.env)).all (fun x => !x.1) = true := by
    have := star_any (pos := p) (env := X.env) hn
    rw [List.any_eq_false] at this
    rw [List.all_eq_true]
    intro x hx
    simpa using this x hx
  refine (pe_bm PySem.F.plainAttrs_list slot hty hm ho ha hbase (by rw [hall]; exact hlen) hline (star_cons hn) (star_any (noStar_tail hn))).imp fun σ H Q ⟨g, ρ, S, r, h⟩ => ?_
  refine ⟨g, ρ, S, r, (Out.bi (RA := RD X.K) h).mono fun v H1 ⟨g1, d, S1, af, rv, h1⟩ => ?_⟩
  obtain ⟨l, hl, h2⟩ := Out.lk h1
  obtain ⟨q, xs, ev, hq, _⟩ := lst_at af.here rv hl
  refine ⟨by rw [ev]; exact tyL hq.sq, g1, ρ, S1, r.after af, (Out.bi (RA := RDs X.K) h2).mono fun vs H2 ⟨g2, ds, S2, af2, rvs, h3⟩ => ?_⟩
  exact mt_out hd (H0 := H) (g0 := g) af2.here (rv.ext af2.ext af.ok) rvs h3
theorem de_mth0 {m : Mt} {id : String} {name : Str} {r : V → List V → Hp → VK → Prop} (slot : PySem.Slot "list" name id) (hty : typeOf (.builtin id) = pure (.type "method_descriptor")) (hm : MtR X id r) (hd : MtD X.K r m) (ho : DE X ct W o mo)
    (hbase : attributeBase o name X.env (eval o X.env) = eval o X.env) (hline : (apos.endLine == p.line) = true) :
    DE X ct W (.Call (.Attribute o name apos) [] [] p) (fun ρ => bnd (mo ρ) fun x => bnd (look (lstOf x)) fun _ => bnd (ret []) fun ds => mthD m x ds) := by
  refine (pe_bm0 PySem.F.plainAttrs_list slot hty hm ho hbase hline).imp fun σ H Q ⟨g, ρ, S, r, h⟩ => ?_
  refine ⟨g, ρ, S, r, (Out.bi (RA := RD X.K) h).mono fun v H1 ⟨g1, d, S1, af, rv, h1⟩ => ?_⟩
  obtain ⟨l, hl, h2⟩ := Out.lk h1
  obtain ⟨q, xs, ev, hq, _⟩ := lst_at af.here rv hl
  refine ⟨by rw [ev]; exact tyL hq.sq, ?_⟩
  exact mt_out hd (H0 := H) (g0 := g) af.here rv reps_nil h2
end
section
variable {K : Frag}
theorem mthD_ok {m : Mt} {d : D} {ds : List D} {S S' : Store} {z : D} (h : mthD m d ds S = .ok z S') : ∃ l xs, d = .loc l ∧ S[l]? = some (.lst xs) ∧
    ((m = .extend ∧ ∃ y ys, ds = [y] ∧ lstOf y S = some ys ∧ xs.length + ys.length ≤ line ∧ z = .non ∧ S' = S.set l (.lst (xs ++ ys))) ∨ ∃ xs', mtOn m xs ds = some (z, xs') ∧ S' = S.set l (.lst xs')) := by
  unfold mthD at h
  split at h
  · rename_i l
    split at h
    · rename_i xs hl
      refine ⟨l, xs, rfl, hl, ?_⟩
      split at h
      · rename_i y
        split at h
        · rename_i ys hy
          split at h
          · rename_i hz
            cases h
            exact .inl ⟨rfl, y, ys, rfl, hy, hz, rfl, rfl⟩
          · cases h
        · cases h
      · split at h
        · rename_i d' xs' hm
          cases h
          exact .inr ⟨xs', hm, rfl⟩
        · cases h
    · cases h
  · cases h
theorem mtD_append : MtD K rAppend .append := by
  intro H g S x vs d ds z S' Q a rx rs h q
  obtain ⟨l, xs, rfl, hl, ⟨e, _⟩ | ⟨xs', hm, rfl⟩⟩ := mthD_ok h
  · cases e
  · obtain ⟨p, ys, rfl, hμ, hH, ry⟩ := cell_at a rx hl
    match ds, hm, rs with
    | [y], hm, rs =>
      simp only [mtOn] at hm
      split at hm
      · rename_i hz
        cases hm
        obtain ⟨v, rfl, rv⟩ := reps_one rs
        refine ⟨p, ys, v, rfl, rfl, hH, by rw [ry.length, line_eq]; exact hz, ?_⟩
        exact q _ _ _ (a.wroteL hμ (ry.append (reps_cons rv reps_nil))) rep_non
      · cases hm
    | [], hm, rs => simp [mtOn] at hm
    | _ :: _ :: _, hm, rs => simp [mtOn] at hm
theorem mtD_extend : MtD K (rExtendA K) .extend := by
  intro H g S x vs d ds z S' Q a rx rs h q
  obtain ⟨l, xs, rfl, hl, ⟨_, y, zs, rfl, hy, hz, rfl, rfl⟩ | ⟨xs', hm, rfl⟩⟩ := mthD_ok h
  · obtain ⟨p, ys, rfl, hμ, hH, ry⟩ := cell_at a rx hl
    obtain ⟨v, rfl, rv⟩ := reps_one rs
    obtain ⟨b, us, rfl, hb, ru⟩ := lst_at a rv hy
    refine ⟨p, b, ys, us, rfl, rfl, hH, hb, by rw [ry.length, ru.length, line_eq]; exact hz, ?_⟩
    exact q _ _ _ (a.wroteL hμ (ry.append ru)) rep_non
  · match ds with
    | [] => simp [mtOn] at hm
    | [_] => simp [mtOn] at hm
    | _ :: _ :: _ => simp [mtOn] at hm
theorem mtD_pop : MtD K (fun x vs H Q => rPop x vs H Q) .pop := by
  intro H g S x vs d ds z S' Q a rx rs h q
  obtain ⟨l, xs, rfl, hl, ⟨e, _⟩ | ⟨xs', hm, rfl⟩⟩ := mthD_ok h
  · cases e
  · obtain ⟨p, ys, rfl, hμ, hH, ry⟩ := cell_at a rx hl
    match ds, hm, rs with
    | [], hm, rs =>
      obtain ⟨y, hy, e⟩ := Option.map_eq_some_iff.mp (show (xs[xs.length - 1]?).map (fun y => (y, xs.dropLast)) = some (z, xs') from hm)
      cases e
      rw [Reps] at rs
      subst rs
      obtain ⟨v, h1, h2⟩ := ry.get hy
      refine ⟨p, ys, v, rfl, rfl, hH, by rw [ry.length]; exact h1, ?_⟩
      exact q _ _ _ (a.wroteL hμ ry.dropLast) (h2.mon (Mon.wrote (List.mem_of_getElem? hμ)) a.ok)
    | _ :: _, hm, rs => simp [mtOn] at hm
theorem mtD_popAt : MtD K rPopAt .popAt := by
  intro H g S x vs d ds z S' Q a rx rs h q
  obtain ⟨l, xs, rfl, hl, ⟨e, _⟩ | ⟨xs', hm, rfl⟩⟩ := mthD_ok h
  · cases e
  · obtain ⟨p, ys, rfl, hμ, hH, ry⟩ := cell_at a rx hl
    match ds, hm, rs with
    | [.int i], hm, rs =>
      simp only [mtOn] at hm
      split at hm
      · rename_i hi
        obtain ⟨j, hj, hm⟩ := Option.bind_eq_some_iff.mp hm
        obtain ⟨y, hy, e⟩ := Option.map_eq_some_iff.mp hm
        cases e
        obtain ⟨v, rfl, rv⟩ := reps_one rs
        obtain ⟨u, h1, h2⟩ := ry.get hy
        have hs := L2.ixN_seq (show L2.ixN ys.length i = some j from by rw [ry.length]; exact hj)
        refine ⟨p, ys, i, j, u, rfl, by rw [rv.int_inv], hH, by omega, by omega, hs.1, h1, ?_⟩
        exact q _ _ _ (a.wroteL hμ (ry.eraseIdx j)) (h2.mon (Mon.wrote (List.mem_of_getElem? hμ)) a.ok)
      · cases hm
    | [], hm, rs => simp [mtOn] at hm
    | _ :: _ :: _, hm, rs => simp [mtOn] at hm
    | [.non], hm, rs => simp [mtOn] at hm
    | [.bl _], hm, rs => simp [mtOn] at hm
    | [.str _], hm, rs => simp [mtOn] at hm
    | [.tup _], hm, rs => simp [mtOn] at hm
    | [.lst _], hm, rs => simp [mtOn] at hm
    | [.scr _], hm, rs => simp [mtOn] at hm
    | [.dct _ _], hm, rs => simp [mtOn] at hm
    | [.loc _], hm, rs => simp [mtOn] at hm
theorem mtD_reverse : MtD K rReverse .reverse := by
  intro H g S x vs d ds z S' Q a rx rs h q
  obtain ⟨l, xs, rfl, hl, ⟨e, _⟩ | ⟨xs', hm, rfl⟩⟩ := mthD_ok h
  · cases e
  · obtain ⟨p, ys, rfl, hμ, hH, ry⟩ := cell_at a rx hl
    match ds, hm, rs with
    | [], hm, rs =>
      cases hm
      rw [Reps] at rs
      subst rs
      exact ⟨p, ys, rfl, rfl, hH, q _ _ _ (a.wroteL hμ ry.reverse) rep_non⟩
    | _ :: _, hm, rs => simp [mtOn] at hm
theorem mtD_clear : MtD K rClear .clear := by
  intro H g S x vs d ds z S' Q a rx rs h q
  obtain ⟨l, xs, rfl, hl, ⟨e, _⟩ | ⟨xs', hm, rfl⟩⟩ := mthD_ok h
  · cases e
  · obtain ⟨p, ys, rfl, hμ, hH, ry⟩ := cell_at a rx hl
    match ds, hm, rs with
    | [], hm, rs =>
      cases hm
      rw [Reps] at rs
      subst rs
      exact ⟨p, ys, rfl, rfl, hH, q _ _ _ (a.wroteL hμ reps_nil) rep_non⟩
    | _ :: _, hm, rs => simp [mtOn] at hm
end
/-! ### objects: list(x), a + b, a * n -/
section
variable {X : L2.Cx} {ct : CT} {W : WX} {a b o : Expr} {ma mb mo : Env → M D} {es : List Expr} {ms : Env → M (List D)} {pos p apos : Pos}
theorem df_listOf (hg : Gl X "list") (hm : X.mg "list" = none) (ha : DE X ct W a ma) (he : noStar [a] = true) : DF X ct W (.Call (.Name "list" p) [a] [] pos) (fun ρ => bnd (ma ρ) fun x => bnd (look (seqOf x)) fun xs => ret (.l xs)) := by
  refine (pe_callTy (t := tCons (TEv X.K ct W ma) tNil) call_list_of hg hm (by decide +kernel) (pa_cons ha pa_nil (star_cons he)) (by decide) (by decide) (star_cons he) rfl).imp fun σ H Q ⟨g, ρ, S, r, h⟩ => ?_
  refine ⟨g, ρ, S, r, Out.last (RA := RD X.K) h fun H1 g1 v d S1 af rv h1 => ?_⟩
  obtain ⟨ds, hz, h4⟩ := Out.lk h1
  obtain ⟨q, xs, rfl, hq, rx⟩ := seq_at af.here rv hz
  refine ⟨q, xs, rfl, hq, fun p hp => ?_⟩
  obtain ⟨aw4, ro⟩ := ro_list af hp rx
  exact h4 _ _ _ aw4 ro
theorem df_cat (ha : DE X ct W a ma) (hb : DE X ct W b mb) : DF X ct W (.BinOp a .Add b pos) (fun ρ => bnd (ma ρ) fun x => bnd (mb ρ) fun y => bnd (look (lstOf x)) fun xs => bnd (look (lstOf y)) fun ys => if xs.length + ys.length ≤ line then ret (.l (xs ++ ys)) else bad) := by
  refine (pe_op op_catL ha hb).imp fun σ H Q ⟨g, ρ, S, r, h⟩ => ?_
  refine ⟨g, ρ, S, r, Out.last (RA := RD X.K) h fun H1 g1 v d S1 af rv h1 => ?_⟩
  refine ⟨g1, ρ, S1, r.after af, Out.last2 (RA := RD X.K) af h1 fun H2 g2 u e S2 aw2 af2 ru h2 => ?_⟩
  obtain ⟨ds, hz, h3⟩ := Out.lk h2
  obtain ⟨es, hz2, h4⟩ := Out.lk h3
  obtain ⟨hl, h5⟩ := Out.it h4
  obtain ⟨q, xs, rfl, hq, rx⟩ := lst_at af2.here (rv.ext af2.ext af.ok) hz
  obtain ⟨q2, ys, rfl, hq2, ry⟩ := lst_at af2.here ru hz2
  refine ⟨q, q2, xs, ys, rfl, rfl, hq, hq2, by rw [rx.length, ry.length, line_eq]; exact hl, fun p hp => ?_⟩
  obtain ⟨aw4, ro⟩ := ro_list aw2 hp (rx.append ry)
  exact h5 _ _ _ aw4 ro
theorem df_rep (ha : DE X ct W a ma) (hb : DE X ct W b mb) : DF X ct W (.BinOp a .Mult b pos) (fun ρ => bnd (ma ρ) fun x => bnd (mb ρ) fun y => bnd (look (lstOf x)) fun xs => bnd (lift (asInt y)) fun k =>
      if -1000000000 < k ∧ k < 1000000000 ∧ xs.length * k.toNat ≤ line then ret (.l (repL xs k.toNat)) else bad) := by
  refine (pe_op op_repL ha hb).imp fun σ H Q ⟨g, ρ, S, r, h⟩ => ?_
  refine ⟨g, ρ, S, r, Out.last (RA := RD X.K) h fun H1 g1 v d S1 af rv h1 => ?_⟩
  refine ⟨g1, ρ, S1, r.after af, Out.last2 (RA := RD X.K) af h1 fun H2 g2 u e S2 aw2 af2 ru h2 => ?_⟩
  obtain ⟨ds, hz, h3⟩ := Out.lk h2
  obtain ⟨k, hk, h4⟩ := Out.lf h3
  obtain ⟨⟨l1, l2, l3⟩, h5⟩ := Out.it h4
  obtain ⟨q, xs, rfl, hq, rx⟩ := lst_at af2.here (rv.ext af2.ext af.ok) hz
  cases e with
  | int j =>
    cases hk
    refine ⟨q, k, xs, rfl, ru.int_inv, hq, by omega, by omega, by rw [rx.length, line_eq]; exact l3, fun p hp => ?_⟩
    obtain ⟨aw4, ro⟩ := ro_list aw2 hp (rx.rep k.toNat)
    exact h5 _ _ _ aw4 ro
  | _ => cases hk
end
end Mini

set_option maxHeartbeats 4000000
/-! MINI, part 14: statements. -/
namespace Mini
open PySem PySem.Spec PyProof.Rows L2

/-! ### what stays through statements: the frozen, the tuples -/
structure Lat (H : Hp) (g : Gh) (H' : Hp) (g' : Gh) : Prop where
  fz : ∀ a, g.F a → g'.F a ∧ H' a = H a
  mu : ∃ m, g'.μ = g.μ ++ m
  ki : ∀ a o, H a = some o → ¬ MutO o → H' a = some o
section
variable {K : Frag} {H H' H'' : Hp} {g g' g'' : Gh}
theorem Lat.refl : Lat H g H g := ⟨fun _ f => ⟨f, rfl⟩, ⟨[], by simp⟩, fun _ _ h _ => h⟩
theorem Lat.trans (a : Lat H g H' g') (b : Lat H' g' H'' g'') : Lat H g H'' g'' := by
  obtain ⟨m, e⟩ := a.mu
  obtain ⟨m', e'⟩ := b.mu
  exact ⟨fun x f => ⟨(b.fz x (a.fz x f).1).1, (b.fz x (a.fz x f).1).2.trans (a.fz x f).2⟩, ⟨m ++ m', by rw [e', e, List.append_assoc]⟩, fun x o h n => b.ki x o (a.ki x o h n) n⟩
theorem Ext.lat (e : Ext H g H' g') (ok : Gok H g) : Lat H g H' g' := by
  obtain ⟨m, em, _⟩ := e.mu
  refine ⟨fun x f => ?_, ⟨m, em⟩, fun x o h n => e.keep x o h fun hm => ?_⟩
  · obtain ⟨⟨o, h⟩, nm⟩ := ok.fz x f
    exact ⟨e.fz x f, (e.keep x o h nm).trans h.symm⟩
  · obtain ⟨o', h', m'⟩ := ok.mu x hm
    rw [h] at h'; cases h'
    exact n m'
theorem Lat.rd (e : Lat H g H' g') {a : Addr} {o : HO} (f : g.F a) (h : Rd H a o) : Rd H' a o := by
  have q := (e.fz a f).2
  rcases h with h | ⟨ob, h⟩
  · exact .inl (q.trans h)
  · exact .inr ⟨ob, q.trans h⟩
theorem Lat.sqT (e : Lat H g H' g') {a : Addr} {xs : List V} (h : SqT K H a xs) : SqT K H' a xs := by
  rcases h with (h | ⟨o, h⟩) | h
  · exact .inl (.inl (e.ki a _ h (by simp [MutO])))
  · exact .inl (.inr ⟨o, e.ki a _ h (by simp [MutO])⟩)
  · exact .inr h
mutual
theorem Rep.lat (e : Lat H g H' g') : ∀ {d : D} {v : V}, Rep K H g v d → Rep K H' g' v d
  | .non, v, h => by rw [Rep] at h ⊢; exact h
  | .bl b, v, h => by rw [Rep] at h ⊢; exact h
  | .int i, v, h => by rw [Rep] at h ⊢; exact h
  | .str s, v, h => by rw [Rep] at h ⊢; exact h
  | .tup ds, v, h => by
    rw [Rep] at h ⊢
    obtain ⟨a, xs, e1, h1, h2⟩ := h
    exact ⟨a, xs, e1, e.sqT h1, Reps.lat e h2⟩
  | .lst ds, v, h => by
    rw [Rep] at h ⊢
    obtain ⟨a, xs, e1, h1, h2⟩ := h
    refine ⟨a, xs, e1, ?_, Reps.lat e h2⟩
    rcases h1 with ⟨h1, f⟩ | h1
    · exact .inl ⟨e.rd f h1, (e.fz a f).1⟩
    · exact .inr h1
  | .scr ds, v, h => by
    rw [Rep] at h ⊢
    obtain ⟨a, xs, e1, h1, h2⟩ := h
    refine ⟨a, xs, e1, ?_, Reps.lat e h2⟩
    rcases h1 with ⟨h1, f⟩ | h1
    · exact .inl ⟨e.rd f h1, (e.fz a f).1⟩
    · exact .inr h1
  | .dct ks ds, v, h => by
    rw [Rep] at h ⊢
    obtain ⟨a, ob, o, xs, e1, h1, f, h2, h3⟩ := h
    exact ⟨a, ob, o, xs, e1, (e.fz a f).2.trans h1, (e.fz a f).1, h2, Reps.lat e h3⟩
  | .loc l, v, h => by
    rw [Rep] at h ⊢
    obtain ⟨a, e1, h1⟩ := h
    obtain ⟨m, e2⟩ := e.mu
    refine ⟨a, e1, ?_⟩
    rw [e2, List.getElem?_append_left (List.getElem?_eq_some_iff.mp h1).1]
    exact h1
theorem Reps.lat (e : Lat H g H' g') : ∀ {ds : List D} {vs : List V}, Reps K H g vs ds → Reps K H' g' vs ds
  | [], vs, h => by rw [Reps] at h ⊢; exact h
  | d :: ds, vs, h => by
    rw [Reps] at h ⊢
    obtain ⟨v, r, e1, h1, h2⟩ := h
    exact ⟨v, r, e1, Rep.lat e h1, Reps.lat e h2⟩
end
end

/-! ### the state between two statements -/
def Slot.isOwn : Slot → Bool
  | .own _ => true
  | .ownD _ _ => true
  | _ => false
theorem ownAt_iff {σ : St} {ρ : Env} {i : Nat} {a : Addr} : ownAt σ ρ i a ↔ (∃ s, ρ[i]? = some s ∧ s.isOwn = true) ∧ σ[i]? = some (some (.ref a)) := by
  unfold ownAt
  refine and_congr_left' ⟨fun ⟨s, h, h2⟩ => ⟨s, h, ?_⟩, fun ⟨s, h, h2⟩ => ⟨s, h, ?_⟩⟩
  · cases s <;> first | rfl | exact h2.elim
  · cases s <;> first | trivial | exact absurd h2 (by simp [Slot.isOwn])
structure RelS (K : Frag) (H₀ : Hp) (g₀ g : Gh) (σ : St) (H : Hp) (ρ : Env) (S : Store) : Prop where
  af : After K H₀ g₀ H g S
  rel : Rel K g σ H ρ S
  new : ∀ i a, ownAt σ ρ i a → H₀ a = none
section
variable {K : Frag} {H₀ H H' H1 : Hp} {g₀ g g' g1 : Gh} {σ : St} {ρ : Env} {S S' S1 : Store}
theorem RelS.after (r : RelS K H₀ g₀ g σ H ρ S) (a : After K H g H1 g1 S1) : RelS K H₀ g₀ g1 σ H1 ρ S1 := ⟨r.af.trans a, r.rel.after a, r.new⟩
theorem Rel.set (r : Rel K g σ H ρ S) {i : Nat} {s : Slot} {v : Option V} (h : SlotOk K H g v s) (hs : s.isOwn = true → ∀ a, v = some (.ref a) → ∀ j, j ≠ i → ¬ ownAt σ ρ j a) : Rel K g (σ.set i v) H (ρ.set i s) S := by
  have other : ∀ {j a}, j ≠ i → ownAt (σ.set i v) (ρ.set i s) j a → ownAt σ ρ j a := fun {j a} ne h => by
    rw [ownAt_iff] at h ⊢
    rw [List.getElem?_set_ne (Ne.symm ne), List.getElem?_set_ne (Ne.symm ne)] at h
    exact h
  have self : ∀ {a}, ownAt (σ.set i v) (ρ.set i s) i a → s.isOwn = true ∧ v = some (.ref a) := fun {a} h => by
    rw [ownAt_iff] at h
    obtain ⟨⟨t, h1, h2⟩, h3⟩ := h
    have l1 := (List.getElem?_eq_some_iff.mp h1).1
    have l2 := (List.getElem?_eq_some_iff.mp h3).1
    rw [List.length_set] at l1 l2
    rw [List.getElem?_set_self l1] at h1
    rw [List.getElem?_set_self l2] at h3
    cases h1
    exact ⟨h2, Option.some.inj h3⟩
  refine ⟨r.ok, r.cl, r.cells, by rw [List.length_set, List.length_set]; exact r.len, fun j t ht => ?_, fun j k a hj hk => ?_⟩
  · by_cases e : j = i
    · subst e
      have l1 := (List.getElem?_eq_some_iff.mp ht).1
      rw [List.length_set] at l1
      rw [List.getElem?_set_self l1] at ht
      cases ht
      exact ⟨v, by rw [List.getElem?_set_self (by rw [r.len]; exact l1)], h⟩
    · rw [List.getElem?_set_ne (Ne.symm e)] at ht
      obtain ⟨u, h1, h2⟩ := r.env j t ht
      exact ⟨u, by rw [List.getElem?_set_ne (Ne.symm e)]; exact h1, h2⟩
  · by_cases ej : j = i
    · by_cases ek : k = i
      · rw [ej, ek]
      · subst ej
        obtain ⟨h1, h2⟩ := self hj
        exact absurd (other ek hk) (hs h1 a h2 k ek)
    · by_cases ek : k = i
      · subst ek
        obtain ⟨h1, h2⟩ := self hk
        exact absurd (other ej hj) (hs h1 a h2 j ej)
      · exact r.sep j k a (other ej hj) (other ek hk)
theorem RelS.set (r : RelS K H₀ g₀ g σ H ρ S) {i : Nat} {s : Slot} {v : Option V} (h : SlotOk K H g v s) (hs : s.isOwn = true → ∀ a, v = some (.ref a) → H₀ a = none ∧ ∀ j, j ≠ i → ¬ ownAt σ ρ j a) : RelS K H₀ g₀ g (σ.set i v) H (ρ.set i s) S := by
  refine ⟨r.af, r.rel.set h fun e a q => (hs e a q).2, fun j a ha => ?_⟩
  by_cases e : j = i
  · subst e
    rw [ownAt_iff] at ha
    obtain ⟨⟨t, h1, h2⟩, h3⟩ := ha
    have l1 := (List.getElem?_eq_some_iff.mp h1).1
    have l2 := (List.getElem?_eq_some_iff.mp h3).1
    rw [List.length_set] at l1 l2
    rw [List.getElem?_set_self l1] at h1
    rw [List.getElem?_set_self l2] at h3
    cases h1
    exact (hs h2 a (Option.some.inj h3)).1
  · refine r.new j a ?_
    rw [ownAt_iff] at ha ⊢
    rw [List.getElem?_set_ne (Ne.symm e), List.getElem?_set_ne (Ne.symm e)] at ha
    exact ha
theorem RelS.put (r : RelS K H₀ g₀ g σ H ρ S) {i : Nat} {v : V} {d : D} (h : Rep K H g v d) : RelS K H₀ g₀ g (σ.set i (some v)) H (ρ.set i (.val d)) S :=
  r.set ⟨v, rfl, h⟩ fun e => absurd e (by simp [Slot.isOwn])
end

/-! ### the end of a statement -/
def OutS (K : Frag) (ct : CT) (P : Env → Prop) (H₀ : Hp) (g₀ : Gh) (H : Hp) (g : Gh) (W : WX) (D : Ends) : R Fl → Prop
  | .ok (.nx ρ') S' => ∀ σ' H' g', Lat H g H' g' → RelS K H₀ g₀ g' σ' H' ρ' S' → P ρ' → D.nx σ' H'
  | .ok (.bk ρ') S' => ∀ σ' H' g', Lat H g H' g' → RelS K H₀ g₀ g' σ' H' ρ' S' → P ρ' → D.bk σ' H'
  | .ok (.ct ρ') S' => ∀ σ' H' g', Lat H g H' g' → RelS K H₀ g₀ g' σ' H' ρ' S' → P ρ' → D.ct σ' H'
  | .ok (.rt d) S' => ∀ H' g' v, After K H₀ g₀ H' g' S' → Rep K H' g' v d → D.rt v H'
  | .err c fs S' => ∀ ρ' σ' H' g' cl dd, P ρ' → Lat H g H' g' → RelS K H₀ g₀ g' σ' H' ρ' S' → ExcOk K ct H' g' c fs cl dd → W cl dd σ' H'
  | .bad => False
def TSv (K : Frag) (ct : CT) (W : WX) (P : Env → Prop) (m : Env → M Fl) : TS := fun D σ H => ∃ H₀ g₀ g ρ S, RelS K H₀ g₀ g σ H ρ S ∧ P ρ ∧ OutS K ct P H₀ g₀ H g W D (m ρ S)
abbrev DS (X : L2.Cx) (ct : CT) (W : WX) (P : Env → Prop) (st : Stmt) (m : Env → M Fl) : Prop := PS X st (TSv X.K ct W P m)
abbrev DSs (X : L2.Cx) (ct : CT) (W : WX) (P : Env → Prop) (st : List Stmt) (m : Env → M Fl) : Prop := PSs X st (TSv X.K ct W P m)
theorem _root_.L2.PS.imp {X : L2.Cx} {e : Stmt} {t t' : TS} (h : PS X e t) (i : ∀ D σ H, t' D σ H → t D σ H) : PS X e t' := ⟨fun pins s σ H D I q => h.run pins s σ H D I (i D σ H q)⟩
theorem _root_.L2.PSs.imp {X : L2.Cx} {e : List Stmt} {t t' : TS} (h : PSs X e t) (i : ∀ D σ H, t' D σ H → t D σ H) : PSs X e t' := ⟨fun pins s σ H D I q => h.run pins s σ H D I (i D σ H q)⟩
section
variable {K : Frag} {ct : CT} {P : Env → Prop} {H₀ H H1 : Hp} {g₀ g g1 : Gh} {W : WX} {D D' : Ends} {σ : St} {ρ : Env} {S S1 : Store} {α β : Type}
theorem OutS.base {r : R Fl} (h : OutS K ct P H₀ g₀ H g W D r) (l : Lat H g H1 g1) : OutS K ct P H₀ g₀ H1 g1 W D r := by
  cases r with
  | ok f S' => cases f with
    | nx ρ' => exact fun σ' H' g' q => h σ' H' g' (l.trans q)
    | bk ρ' => exact fun σ' H' g' q => h σ' H' g' (l.trans q)
    | ct ρ' => exact fun σ' H' g' q => h σ' H' g' (l.trans q)
    | rt d => exact h
  | err c fs S' => exact fun ρ' σ' H' g' cl dd hp q => h ρ' σ' H' g' cl dd hp (l.trans q)
  | bad => exact h
/-- a value first -/
theorem OutS.bi {RA : Hp → Gh → β → α → Prop} {m : M α} {k : α → M Fl} (r : RelS K H₀ g₀ g σ H ρ S) (hp : P ρ) (h : OutS K ct P H₀ g₀ H g W D (bnd m k S)) :
    Out K ct H g (fun c d H' => W c d σ H') RA (fun b H1 => ∃ g1 a S1, After K H g H1 g1 S1 ∧ Lat H g H1 g1 ∧ RA H1 g1 b a ∧ RelS K H₀ g₀ g1 σ H1 ρ S1 ∧ OutS K ct P H₀ g₀ H1 g1 W D (k a S1)) (m S) := by
  unfold Mini.bnd at h
  cases e : m S with
  | ok a S1 =>
    rw [e] at h
    exact fun H1 g1 b af ra => ⟨g1, a, S1, af, af.ext.lat r.rel.ok, ra, r.after af, OutS.base h (af.ext.lat r.rel.ok)⟩
  | err c fs S1 =>
    rw [e] at h
    exact fun H' g' cl dd af ex => h ρ σ H' g' cl dd hp (af.ext.lat r.rel.ok) (r.after af) ex
  | bad => rw [e] at h; exact h
theorem OutS.lk {f : Store → Option α} {k : α → M Fl} (h : OutS K ct P H₀ g₀ H g W D (bnd (look f) k S)) : ∃ a, f S = some a ∧ OutS K ct P H₀ g₀ H g W D (k a S) := by
  unfold Mini.bnd Mini.look at h
  cases e : f S with
  | none => rw [e] at h; exact h.elim
  | some a => rw [e] at h; exact ⟨a, rfl, h⟩
theorem OutS.lf {o : Option α} {k : α → M Fl} (h : OutS K ct P H₀ g₀ H g W D (bnd (lift o) k S)) : ∃ a, o = some a ∧ OutS K ct P H₀ g₀ H g W D (k a S) := by
  cases o with
  | none => exact h.elim
  | some a => exact ⟨a, rfl, h⟩
theorem OutS.it {c : Prop} [Decidable c] {m : M Fl} (h : OutS K ct P H₀ g₀ H g W D ((if c then m else bad) S)) : c ∧ OutS K ct P H₀ g₀ H g W D (m S) := by
  by_cases hc : c
  · rw [if_pos hc] at h; exact ⟨hc, h⟩
  · rw [if_neg hc] at h; exact h.elim
theorem TSv.mk' {m : Env → M Fl} (r : RelS K H₀ g₀ g σ H ρ S) (hp : P ρ) (h : OutS K ct P H₀ g₀ H g W D (m ρ S)) : TSv K ct W P m D σ H := ⟨H₀, g₀, g, ρ, S, r, hp, h⟩
end

/-- one statement behind another -/
def seqM (m1 m2 : Env → M Fl) : Env → M Fl := fun ρ => bnd (m1 ρ) fun f => match f with
  | .nx ρ' => m2 ρ'
  | f => ret f
section
variable {X : L2.Cx} {ct : CT} {W : WX} {P : Env → Prop} {a b c : Expr} {ma mb mc : Env → M D} {tc : Env → M Bool} {st : Stmt} {rest as bs : List Stmt} {m m1 m2 : Env → M Fl} {es : List Expr} {ms : Env → M (List D)} {mo : Env → M O} {pos p q : Pos}
theorem dss_nil : DSs X ct W P [] (fun ρ => ret (.nx ρ)) := L2.PSs.imp pss_nil fun D σ H ⟨H₀, g₀, g, ρ, S, r, hp, h⟩ => h σ H g .refl r hp
theorem dss_cons (h1 : DS X ct W P st m1) (h2 : DSs X ct W P rest m2) : DSs X ct W P (st :: rest) (seqM m1 m2) := by
  refine (pss_cons h1 h2).imp fun D σ H ⟨H₀, g₀, g, ρ, S, r, hp, h⟩ => ⟨H₀, g₀, g, ρ, S, r, hp, ?_⟩
  unfold seqM Mini.bnd at h
  cases e : m1 ρ S with
  | ok f S1 =>
    rw [e] at h
    cases f with
    | nx ρ' => exact fun σ' H' g' l r' hp' => ⟨H₀, g₀, g', ρ', S1, r', hp', OutS.base h l⟩
    | bk ρ' => exact h
    | ct ρ' => exact h
    | rt d => exact h
  | err c fs S1 => rw [e] at h; exact h
  | bad => rw [e] at h; exact h.elim
theorem ds_nope : DS X ct W P st (fun _ => bad) := ⟨fun pins s σ H D I ⟨_, _, _, _, _, _, _, h⟩ => h.elim⟩
theorem dss_nope : DSs X ct W P rest (fun _ => bad) := ⟨fun pins s σ H D I ⟨_, _, _, _, _, _, _, h⟩ => h.elim⟩
theorem ds_pass : DS X ct W P (.Pass pos) (fun ρ => ret (.nx ρ)) := L2.PS.imp ps_pass fun D σ H ⟨H₀, g₀, g, ρ, S, r, hp, h⟩ => h σ H g .refl r hp
theorem ds_brk : DS X ct W P (.Break pos) (fun ρ => ret (.bk ρ)) := L2.PS.imp ps_break fun D σ H ⟨H₀, g₀, g, ρ, S, r, hp, h⟩ => h σ H g .refl r hp
theorem ds_cnt : DS X ct W P (.Continue pos) (fun ρ => ret (.ct ρ)) := L2.PS.imp ps_continue fun D σ H ⟨H₀, g₀, g, ρ, S, r, hp, h⟩ => h σ H g .refl r hp
/-! the value of a comprehension is used otherwise -/
def notComp : Expr → Bool
  | .ListComp .. => false
  | .SetComp .. => false
  | .DictComp .. => false
  | _ => true
theorem swaps_no {e : Expr} {t : Option Expr} {n : Nat} {env : PySem.Env} (h : notComp e = true) : swapsWith e t n env = pure false := by
  cases e <;> first | rfl | exact absurd h (by simp [notComp])
theorem ds_ex (ha : DE X ct W a ma) (hc : notComp a = true) : DS X ct W P (.Expr a pos) (fun ρ => bnd (ma ρ) fun _ => ret (.nx ρ)) := by
  refine (ps_expr ha (swaps_no hc)).imp fun D σ H ⟨H₀, g₀, g, ρ, S, r, hp, h⟩ => ?_
  exact ⟨g, ρ, S, r.rel, (OutS.bi (RA := RD X.K) r hp h).mono fun v H1 ⟨g1, d, S1, af, l, rv, r1, h1⟩ => h1 σ H1 g1 .refl r1 hp⟩
theorem ds_ret (ha : DE X ct W a ma) : DS X ct W P (.Return (some a) pos) (fun ρ => bnd (ma ρ) fun d => ret (.rt d)) := by
  refine (ps_ret ha).imp fun D σ H ⟨H₀, g₀, g, ρ, S, r, hp, h⟩ => ?_
  exact ⟨g, ρ, S, r.rel, (OutS.bi (RA := RD X.K) r hp h).mono fun v H1 ⟨g1, d, S1, af, l, rv, r1, h1⟩ => h1 H1 g1 v r1.af rv⟩
theorem ds_retN : DS X ct W P (.Return none pos) (fun ρ => ret (.rt .non)) := L2.PS.imp ps_retN fun D σ H ⟨H₀, g₀, g, ρ, S, r, hp, h⟩ => h H g .non r.af rep_non
theorem ds_if (hc : DT X ct W c tc) (ha : DSs X ct W P as m1) (hb : DSs X ct W P bs m2) : DS X ct W P (.If c as bs pos) (fun ρ => bnd (tc ρ) fun k => if k then m1 ρ else m2 ρ) := by
  refine (ps_if hc ha hb).imp fun D σ H ⟨H₀, g₀, g, ρ, S, r, hp, h⟩ => ?_
  refine ⟨g, ρ, S, r.rel, (OutS.bi (RA := RB) r hp h).mono fun v H1 ⟨g1, d, S1, af, l, rv, r1, h1⟩ => ?_⟩
  have e : v = d := rv
  subst e
  cases v with
  | true => rw [if_pos rfl] at h1 ⊢; exact ⟨H₀, g₀, g1, ρ, S1, r1, hp, h1⟩
  | false => rw [if_neg Bool.false_ne_true] at h1 ⊢; exact ⟨H₀, g₀, g1, ρ, S1, r1, hp, h1⟩
/-! ### targets -/
/-- alike but for vs -/
def SameBut (vs : List Nat) (σ σ' : St) : Prop := σ'.length = σ.length ∧ ∀ i, i ∉ vs → σ'[i]? = σ[i]?
def OwnSub (σ : St) (ρ : Env) (σ' : St) (ρ' : Env) : Prop := ∀ i a, ownAt σ' ρ' i a → ownAt σ ρ i a
def TGv (K : Frag) (vs : List Nat) (m : D → Env → Option Env) : TG := fun v σ H Q => ∃ g ρ S d, Rel K g σ H ρ S ∧ Rep K H g v d ∧ ∃ ρ', m d ρ = some ρ' ∧ ∀ σ', SameBut vs σ σ' → Rel K g σ' H ρ' S → OwnSub σ ρ σ' ρ' → Q σ' H
def TGsv (K : Frag) (vs : List Nat) (m : List D → Env → Option Env) : TGs := fun us σ H Q => ∃ g ρ S ds, Rel K g σ H ρ S ∧ Reps K H g us ds ∧ ∃ ρ', m ds ρ = some ρ' ∧ ∀ σ', SameBut vs σ σ' → Rel K g σ' H ρ' S → OwnSub σ ρ σ' ρ' → Q σ' H
abbrev DG (X : L2.Cx) (e : Expr) (vs : List Nat) (m : D → Env → Option Env) : Prop := PG X e (TGv X.K vs m)
abbrev DGs (X : L2.Cx) (e : List Expr) (vs : List Nat) (m : List D → Env → Option Env) : Prop := PGs X e (TGsv X.K vs m)
theorem _root_.L2.PG.imp {X : L2.Cx} {e : Expr} {t t' : TG} (h : PG X e t) (i : ∀ v σ H Q, t' v σ H Q → t v σ H Q) : PG X e t' := ⟨fun pins s σ H v u Q I r q => h.run pins s σ H v u Q I r (i v σ H Q q)⟩
theorem _root_.L2.PGs.imp {X : L2.Cx} {e : List Expr} {t t' : TGs} (h : PGs X e t) (i : ∀ v σ H Q, t' v σ H Q → t v σ H Q) : PGs X e t' := ⟨fun pins s σ H v u Q I r q => h.run pins s σ H v u Q I r (i v σ H Q q)⟩
theorem RelS.to {K : Frag} {H₀ H : Hp} {g₀ g : Gh} {σ σ' : St} {ρ ρ' : Env} {S : Store} (r : RelS K H₀ g₀ g σ H ρ S) (r' : Rel K g σ' H ρ' S) (w : OwnSub σ ρ σ' ρ') : RelS K H₀ g₀ g σ' H ρ' S := ⟨r.af, r', fun i a h => r.new i a (w i a h)⟩
theorem own_put {σ : St} {ρ : Env} {i : Nat} {v : V} {d : D} : OwnSub σ ρ (σ.set i (some v)) (ρ.set i (.val d)) := fun j a h => by
  rw [ownAt_iff] at h ⊢
  obtain ⟨⟨s, h1, h2⟩, h3⟩ := h
  by_cases e : j = i
  · subst e
    have l1 := (List.getElem?_eq_some_iff.mp h1).1
    rw [List.length_set] at l1
    rw [List.getElem?_set_self l1] at h1
    cases h1; cases h2
  · rw [List.getElem?_set_ne (Ne.symm e)] at h1 h3
    exact ⟨⟨s, h1, h2⟩, h3⟩
theorem same_put {σ : St} {i : Nat} {v : Option V} : SameBut [i] σ (σ.set i v) := ⟨List.length_set, fun j h => List.getElem?_set_ne fun (e : i = j) => h (by rw [e]; exact List.mem_singleton.mpr rfl)⟩
theorem dg_name {i : Nat} {x : Str} (hN : X.N.Nodup) (hi : X.N[i]? = some x) (hx : Loc X.env.scope x) (hf : X.fn x = true ∨ X.env.scope.names.lookup x = some .local) : DG X (.Name x pos) (T.vars (.name i)) (asgO (.name i)) := by
  refine (pg_name hN hi hx hf).imp fun v σ H Q ⟨g, ρ, S, d, r, rv, ρ', e, q⟩ => ?_
  rw [asgO] at e
  split at e
  · cases e
    exact q _ (by rw [T.vars]; exact same_put) (r.set ⟨v, rfl, rv⟩ fun e => absurd e (by simp [Slot.isOwn])) own_put
  · cases e
theorem dgs_nil : DGs X [] [] (asgOs []) := by
  refine pgs_nil.imp fun vs σ H Q ⟨g, ρ, S, ds, r, rv, ρ', e, q⟩ => ?_
  cases ds with
  | nil => rw [Reps] at rv; cases e; exact ⟨rv, q σ ⟨rfl, fun _ _ => rfl⟩ r fun _ _ h => h⟩
  | cons _ _ => cases e
theorem dgs_cons {t : T} {ts : List T} (h1 : DG X a t.vars (asgO t)) (h2 : DGs X es (T.varss ts) (asgOs ts)) (hs : (assignEach (a :: es) X.env).map (·.2) = assign a X.env :: (assignEach es X.env).map (·.2)) : DGs X (a :: es) (T.varss (t :: ts)) (asgOs (t :: ts)) := by
  refine (pgs_cons h1 h2 hs).imp fun vs σ H Q ⟨g, ρ, S, ds, r, rv, ρ', e, q⟩ => ?_
  cases ds with
  | nil => cases e
  | cons d ds =>
    rw [Reps] at rv
    obtain ⟨v, u, rfl, r1, r2⟩ := rv
    obtain ⟨ρ1, e1, e2⟩ := Option.bind_eq_some_iff.mp (show (asgO t d ρ).bind (fun ρ' => asgOs ts ds ρ') = some ρ' from e)
    refine ⟨v, u, rfl, g, ρ, S, d, r, r1, ρ1, e1, fun σ1 s1 rr w1 => ⟨g, ρ1, S, ds, rr, r2, ρ', e2, fun σ2 s2 rr2 w2 => q σ2 ⟨s2.1.trans s1.1, fun i hi => ?_⟩ rr2 fun i a h => w1 i a (w2 i a h)⟩⟩
    rw [T.varss, List.mem_append] at hi
    exact (s2.2 i fun h => hi (.inr h)).trans (s1.2 i fun h => hi (.inl h))
theorem asgOs_len : ∀ {ts : List T} {ds : List D} {ρ ρ' : Env}, asgOs ts ds ρ = some ρ' → ds.length = ts.length
  | [], [], _, _, _ => rfl
  | [], _ :: _, _, _, h => by cases h
  | t :: ts, [], _, _, h => by cases h
  | t :: ts, d :: ds, ρ, ρ', h => by
    obtain ⟨ρ1, e1, e2⟩ := Option.bind_eq_some_iff.mp (show (asgO t d ρ).bind (fun ρ' => asgOs ts ds ρ') = some ρ' from h)
    simp [asgOs_len e2]
theorem dg_tup {k : Nat} {ts : List T} (hc : X.calm = true) (h : DGs X es (T.varss ts) (asgOs ts)) (hn : (assignEach es X.env).length = ts.length) (hst : (assignEach es X.env).findIdx? (·.1) = none) : DG X (.Tuple es k pos) (T.vars (.tup ts)) (asgO (.tup ts)) := by
  refine (pg_tup hc h hn hst).imp fun v σ H Q ⟨g, ρ, S, d, r, rv, ρ', e, q⟩ => ?_
  cases d with
  | tup xs =>
    obtain ⟨a, vs, rfl, h1, h2⟩ := rv.tup_inv
    exact ⟨a, vs, rfl, h1, by rw [h2.length]; exact asgOs_len (show asgOs ts xs ρ = some ρ' from e), g, ρ, S, xs, r, h2, ρ', e, by rw [T.vars] at q; exact q⟩
  | _ => cases e
/-- what an assignment wishes of its value -/
theorem asg_imp {t : T} {D : Ends} {σ : St} {H : Hp} (hP : ∀ ρ, P ρ) (h : TSv X.K ct W P (fun ρ => bnd (ma ρ) fun d => bnd (asgT t d ρ) fun ρ' => ret (.nx ρ')) D σ H) : TEv X.K ct W ma σ H (fun v H1 => TGv X.K t.vars (asgO t) v σ H1 D.nx) := by
  obtain ⟨H₀, g₀, g, ρ, S, r, hp, h⟩ := h
  refine ⟨g, ρ, S, r.rel, (OutS.bi (RA := RD X.K) r hp h).mono fun v H1 ⟨g1, d, S1, af, l, rv, r1, h1⟩ => ?_⟩
  have h1 : OutS X.K ct P H₀ g₀ H1 g1 W D (bnd (bnd (lift (asgO t d ρ)) retE) (fun ρ' => ret (.nx ρ')) S1) := h1
  cases e : asgO t d ρ with
  | none => rw [e] at h1; exact h1.elim
  | some ρ' =>
    rw [e] at h1
    have h1 : OutS X.K ct P H₀ g₀ H1 g1 W D (bnd (retE ρ') (fun ρ' => ret (.nx ρ')) S1) := h1
    rw [retE_eq] at h1
    exact ⟨g1, ρ, S1, d, r1.rel, rv, ρ', e, fun σ' _ r' w' => h1 σ' H1 g1 .refl (r1.to r' w') (hP ρ')⟩
/-- target = value -/
theorem ds_asg {t : T} (hP : ∀ ρ, P ρ) (ha : DE X ct W a ma) (hg : DG X c t.vars (asgO t)) (hs : swapsWithSole [c] a pos.line X.env = pure false) (hw : swappedStores [c] a X.env = pure none) (h1 : (assignEach [c] X.env).map (·.2) = [assign c X.env]) :
    DS X ct W P (.Assign [c] a pos) (fun ρ => bnd (ma ρ) fun d => bnd (asgT t d ρ) fun ρ' => ret (.nx ρ')) :=
  (ps_asg ha hg hs hw h1).imp fun D σ H h => asg_imp hP h
end
end Mini

set_option maxHeartbeats 4000000
/-! MINI, part 15: lists that one name holds; what is walked; loops. -/
namespace Mini
open PySem PySem.Spec PyProof.Rows L2
theorem set_same {α : Type} {l : List α} {i : Nat} {v : α} (h : l[i]? = some v) : l.set i v = l := by
  apply List.ext_getElem?
  intro j
  by_cases e : i = j
  · subst e
    rw [List.getElem?_set_self (List.getElem?_eq_some_iff.mp h).1, h]
  · rw [List.getElem?_set_ne e]
section
variable {K : Frag} {H₀ H H' H1 : Hp} {g₀ g g' g1 : Gh} {σ : St} {ρ : Env} {S S' S1 : Store}
theorem CellOk.lat (e : Lat H g H' g') {a : Addr} {c : Cell} (h : CellOk K H g a c) (hk : H' a = H a) : CellOk K H' g' a c := by
  cases c with
  | lst ds => obtain ⟨xs, h1, h2⟩ := h; exact ⟨xs, by rw [hk]; exact h1, h2.lat e⟩
  | dct ks ds => obtain ⟨o, xs, h1, m, h3, h2⟩ := h; exact ⟨o, xs, by rw [hk]; exact h1, m, h3, h2.lat e⟩
theorem RelS.ownL (r : RelS K H₀ g₀ g σ H ρ S) {i : Nat} {ds : List D} (h : ρ[i]? = some (.own ds)) : ∃ a xs, σ[i]? = some (some (.ref a)) ∧ H a = some (.lst xs) ∧ ¬ g.F a ∧ a ∉ g.μ ∧ Reps K H g xs ds ∧ H₀ a = none ∧ ownAt σ ρ i a := by
  obtain ⟨v, e, a, xs, rfl, h1, h2, h3, h4⟩ := r.rel.env i _ h
  have o : ownAt σ ρ i a := ownAt_iff.mpr ⟨⟨_, h, rfl⟩, e⟩
  exact ⟨a, xs, e, h1, h2, h3, h4, r.new i a o, o⟩
/-- the owned list at a is written -/
theorem lat_own {a : Addr} {xs : List V} {o : HO} (h1 : H a = some (.lst xs)) (nf : ¬ g.F a) : Lat H g (upd H a o) g :=
  ⟨fun b f => ⟨f, upd_ne fun (e : b = a) => nf (e ▸ f)⟩, ⟨[], by simp⟩, fun b u hb n => by
    rw [upd_ne]
    · exact hb
    · rintro rfl
      rw [h1] at hb; cases hb
      exact n trivial⟩
theorem RelS.wrote (r : RelS K H₀ g₀ g σ H ρ S) {i : Nat} {a : Addr} {xs ys : List V} {ds es : List D} (h : ρ[i]? = some (.own ds)) (hs : σ[i]? = some (some (.ref a))) (h1 : H a = some (.lst xs)) (rr : Reps K H g ys es) :
    RelS K H₀ g₀ g σ (upd H a (.lst ys)) (ρ.set i (.own es)) S ∧ Lat H g (upd H a (.lst ys)) g := by
  have own : ownAt σ ρ i a := ownAt_iff.mpr ⟨⟨_, h, rfl⟩, hs⟩
  have h0 : H₀ a = none := r.new i a own
  obtain ⟨v, e, a', xs', q, h1', nf, nm, rx⟩ := r.rel.env i _ h
  rw [hs] at e
  cases e
  cases q
  have l : Lat H g (upd H a (.lst ys)) g := lat_own h1 nf
  have ok : Gok (upd H a (.lst ys)) g := ⟨fun b f => by
      obtain ⟨⟨u, hu⟩, n⟩ := r.rel.ok.fz b f
      exact ⟨⟨u, by rw [upd_ne (fun (e : b = a) => nf (e ▸ f))]; exact hu⟩, n⟩, fun b m => by
      obtain ⟨u, hu, n⟩ := r.rel.ok.mu b m
      exact ⟨u, by rw [upd_ne (fun (e : b = a) => nm (e ▸ m))]; exact hu, n⟩, r.rel.ok.nd⟩
  have cells : ∀ (l : Nat) c, S[l]? = some c → ∃ b, g.μ[l]? = some b ∧ CellOk K (upd H a (.lst ys)) g b c := fun j c hc => by
    obtain ⟨b, hb, hc'⟩ := r.rel.cells j c hc
    exact ⟨b, hb, hc'.lat l (upd_ne fun (e : b = a) => nm (e ▸ List.mem_of_getElem? hb))⟩
  refine ⟨⟨⟨⟨r.af.ext.fz, r.af.ext.mu, fun b u hb n => ?_, r.af.ext.new⟩, ok, r.rel.cl, cells⟩, ⟨ok, r.rel.cl, cells, by rw [List.length_set]; exact r.rel.len, fun j s hj => ?_, fun j k b hj hk => ?_⟩, fun j b hb => ?_⟩, l⟩
  · rw [upd_ne (fun (e : b = a) => by rw [e, h0] at hb; cases hb)]
    exact r.af.ext.keep b u hb n
  · by_cases e : j = i
    · subst e
      rw [List.getElem?_set_self (List.getElem?_eq_some_iff.mp h).1] at hj
      cases hj
      exact ⟨_, hs, a, ys, rfl, upd_same, nf, nm, rr.lat l⟩
    · rw [List.getElem?_set_ne (Ne.symm e)] at hj
      obtain ⟨v, hv, so⟩ := r.rel.env j s hj
      refine ⟨v, hv, ?_⟩
      cases s with
      | no => trivial
      | val d => obtain ⟨x, e1, h2⟩ := so; exact ⟨x, e1, h2.lat l⟩
      | exc _ _ => trivial
      | own ds' =>
        obtain ⟨b, zs, rfl, h2, h3, h4, h5⟩ := so
        have ne : b ≠ a := fun q => e (r.rel.sep j i a (ownAt_iff.mpr ⟨⟨_, hj, rfl⟩, q ▸ hv⟩) own)
        exact ⟨b, zs, rfl, by rw [upd_ne ne]; exact h2, h3, h4, h5.lat l⟩
      | ownD ks' ds' =>
        obtain ⟨b, o, zs, rfl, h2, mo, h3, h4, dd, h5⟩ := so
        have ne : b ≠ a := fun q => e (r.rel.sep j i a (ownAt_iff.mpr ⟨⟨_, hj, rfl⟩, q ▸ hv⟩) own)
        exact ⟨b, o, zs, rfl, by rw [upd_ne ne]; exact h2, mo, h3, h4, dd, h5.lat l⟩
  · have back : ∀ {j}, ownAt σ (ρ.set i (.own es)) j b → ownAt σ ρ j b := fun {j} hj => by
      rw [ownAt_iff] at hj ⊢
      obtain ⟨⟨s, q1, q2⟩, q3⟩ := hj
      refine ⟨?_, q3⟩
      by_cases e : j = i
      · subst e; exact ⟨_, h, rfl⟩
      · rw [List.getElem?_set_ne (Ne.symm e)] at q1; exact ⟨s, q1, q2⟩
    exact r.rel.sep j k b (back hj) (back hk)
  · refine r.new j b ?_
    rw [ownAt_iff] at hb ⊢
    obtain ⟨⟨s, q1, q2⟩, q3⟩ := hb
    refine ⟨?_, q3⟩
    by_cases e : j = i
    · subst e; exact ⟨_, h, rfl⟩
    · rw [List.getElem?_set_ne (Ne.symm e)] at q1; exact ⟨s, q1, q2⟩
/-- a slot is forgotten -/
theorem RelS.forget (r : RelS K H₀ g₀ g σ H ρ S) (i : Nat) : RelS K H₀ g₀ g σ H (ρ.set i .no) S := by
  by_cases hi : i < σ.length
  · have e : σ[i]? = some σ[i] := List.getElem?_eq_getElem hi
    have := r.set (i := i) (s := .no) (v := σ[i]) trivial fun q => absurd q (by simp [Slot.isOwn])
    rwa [set_same e] at this
  · have : ρ.set i .no = ρ := List.set_eq_of_length_le (by rw [← r.rel.len]; omega)
    rw [this]; exact r
/-- an object that no slot owns is frozen -/
theorem RelS.freeze (r : RelS K H₀ g₀ g σ H ρ S) {a : Addr} {o : HO} (h0 : H₀ a = none) (h1 : H a = some o) (nm : a ∉ g.μ) (no : ∀ j, ¬ ownAt σ ρ j a) : RelS K H₀ g₀ (g.freeze a) σ H ρ S ∧ Lat H g H (g.freeze a) := by
  have af := r.af.freeze h0 h1 nm
  refine ⟨⟨af, ⟨af.ok, af.cl, af.cells, r.rel.len, fun j s hj => ?_, r.rel.sep⟩, r.new⟩, ⟨fun b f => ⟨.inl f, rfl⟩, ⟨[], by simp [Gh.freeze]⟩, fun _ _ h _ => h⟩⟩
  obtain ⟨v, hv, so⟩ := r.rel.env j s hj
  refine ⟨v, hv, ?_⟩
  cases s with
  | no => trivial
  | val d => obtain ⟨x, e1, h2⟩ := so; exact ⟨x, e1, h2.mon Gh.freeze_mon r.rel.ok⟩
  | exc _ _ => trivial
  | own ds' =>
    obtain ⟨b, zs, rfl, h2, h3, h4, h5⟩ := so
    refine ⟨b, zs, rfl, h2, fun f => ?_, h4, h5.mon Gh.freeze_mon r.rel.ok⟩
    rcases f with f | f
    · exact h3 f
    · exact no j (f ▸ ownAt_iff.mpr ⟨⟨_, hj, rfl⟩, hv⟩)
  | ownD ks' ds' =>
    obtain ⟨b, o, zs, rfl, h2, mo, h3, h4, dd, h5⟩ := so
    refine ⟨b, o, zs, rfl, h2, mo, fun f => ?_, h4, dd, h5.mon Gh.freeze_mon r.rel.ok⟩
    rcases f with f | f
    · exact h3 f
    · exact no j (f ▸ ownAt_iff.mpr ⟨⟨_, hj, rfl⟩, hv⟩)
/-- an object that no slot owns is locked -/
theorem RelS.relay (r : RelS K H₀ g₀ g σ H ρ S) {a : Addr} {o o' : HO} (h0 : H₀ a = none) (h1 : H a = some o) (mo : MutO o) (nf : ¬ g.F a) (nm : a ∉ g.μ) (no : ∀ j, ¬ ownAt σ ρ j a) : RelS K H₀ g₀ g σ (upd H a o') ρ S ∧ Lat H g (upd H a o') g := by
  have ne : ∀ b : Addr, b ≠ a → upd H a o' b = H b := fun b n => upd_ne n
  have l : Lat H g (upd H a o') g := ⟨fun b f => ⟨f, ne b fun e => nf (e ▸ f)⟩, ⟨[], by simp⟩, fun b u hb nmo => by
    rw [ne b (fun e => by subst e; rw [h1] at hb; cases hb; exact nmo mo)]; exact hb⟩
  have there : ∀ b u, H b = some u → ∃ u', upd H a o' b = some u' := fun b u hb => by
    by_cases e : b = a
    · subst e; exact ⟨_, upd_same⟩
    · exact ⟨u, (ne b e).trans hb⟩
  have ok : Gok (upd H a o') g := ⟨fun x f => ⟨let ⟨u, hu⟩ := (r.rel.ok.fz x f).1; there x u hu, (r.rel.ok.fz x f).2⟩, fun x m => by
    obtain ⟨u, hu, mu⟩ := r.rel.ok.mu x m
    exact ⟨u, (ne x fun e => nm (e ▸ m)).trans hu, mu⟩, r.rel.ok.nd⟩
  have cells : ∀ (l : Nat) c, S[l]? = some c → ∃ x, g.μ[l]? = some x ∧ CellOk K (upd H a o') g x c := fun i c hc => by
    obtain ⟨x, q1, q2⟩ := r.rel.cells i c hc
    exact ⟨x, q1, q2.lat l (ne x fun e => nm (e ▸ List.mem_of_getElem? q1))⟩
  refine ⟨⟨⟨⟨r.af.ext.fz, r.af.ext.mu, fun b u hb m => ?_, r.af.ext.new⟩, ok, r.af.cl, cells⟩, ⟨ok, r.rel.cl, cells, r.rel.len, fun j s hj => ?_, r.rel.sep⟩, r.new⟩, l⟩
  · rw [ne b (fun e => by subst e; rw [h0] at hb; cases hb)]
    exact r.af.ext.keep b u hb m
  · obtain ⟨v, hv, so⟩ := r.rel.env j s hj
    refine ⟨v, hv, ?_⟩
    cases s with
    | no => trivial
    | val d => obtain ⟨x, e1, h2⟩ := so; exact ⟨x, e1, h2.lat l⟩
    | exc _ _ => trivial
    | own ds =>
      obtain ⟨b, zs, rfl, h2, h3, h4, h5⟩ := so
      exact ⟨b, zs, rfl, (ne b fun e => no j (e ▸ ownAt_iff.mpr ⟨⟨_, hj, rfl⟩, hv⟩)).trans h2, h3, h4, h5.lat l⟩
    | ownD ks ds =>
      obtain ⟨b, u, zs, rfl, h2, mo2, h3, h4, dd, h5⟩ := so
      exact ⟨b, u, zs, rfl, (ne b fun e => no j (e ▸ ownAt_iff.mpr ⟨⟨_, hj, rfl⟩, hv⟩)).trans h2, mo2, h3, h4, dd, h5.lat l⟩
theorem RelS.owned {a : Addr} {i : Nat} {s : Slot} (r : RelS K H₀ g₀ g σ H ρ S) (h : ρ[i]? = some s) (own : ownAt σ ρ i a) : ∀ j, ¬ ownAt σ (ρ.set i .no) j a := fun j hj => by
  rw [ownAt_iff] at hj
  obtain ⟨⟨t, q1, q2⟩, q3⟩ := hj
  by_cases e : j = i
  · subst e
    rw [List.getElem?_set_self (List.getElem?_eq_some_iff.mp h).1] at q1
    cases q1; cases q2
  · rw [List.getElem?_set_ne (Ne.symm e)] at q1
    exact e (r.rel.sep j i a (ownAt_iff.mpr ⟨⟨t, q1, q2⟩, q3⟩) own)
/-- the list that i owns is frozen -/
theorem RelS.frz (r : RelS K H₀ g₀ g σ H ρ S) {i : Nat} {s : Slot} (h : ρ[i]? = some s) : (∃ g', RelS K H₀ g₀ g' σ H (ρ.set i (frzS s)) S ∧ Lat H g H g') ∨
    ∃ a o, H a = some o ∧ Mut (some o) ∧ ∀ od, ∃ g', RelS K H₀ g₀ g' σ (upd H a (.frz od o)) (ρ.set i (frzS s)) S ∧ Lat H g (upd H a (.frz od o)) g' := by
  cases s with
  | own ds =>
    obtain ⟨a, xs, e, h1, nf, nm, rx, h0, own⟩ := r.ownL h
    refine .inl ?_
    obtain ⟨r2, l⟩ := (r.forget i).freeze (r.new i a own) h1 nm (r.owned h own)
    refine ⟨_, ?_, l⟩
    have rp : Rep K H (g.freeze a) (.ref a) (.lst ds) := by
      rw [Rep]
      exact ⟨a, xs, rfl, .inl ⟨.of h1, .inr rfl⟩, rx.mon Gh.freeze_mon r.rel.ok⟩
    have := r2.put (i := i) rp
    rwa [set_same e, List.set_set] at this
  | ownD ks ds =>
    obtain ⟨v, e, a, o, xs, rfl, h1, mo, nf, nm, dd, rx⟩ := r.rel.env i _ h
    have own : ownAt σ ρ i a := ownAt_iff.mpr ⟨⟨_, h, rfl⟩, e⟩
    refine .inr ⟨a, o, h1, ?_, fun od => ?_⟩
    · rcases dd with ⟨_, rfl, _⟩ | ⟨_, rfl, _⟩ <;> trivial
    obtain ⟨r1, l1⟩ := (r.forget i).relay (o' := .frz od o) (r.new i a own) h1 mo nf nm (r.owned h own)
    obtain ⟨r2, l2⟩ := r1.freeze (r.new i a own) upd_same nm (r.owned h own)
    refine ⟨_, ?_, l1.trans l2⟩
    have rp : Rep K (upd H a (.frz od o)) (g.freeze a) (.ref a) (.dct ks ds) := by
      rw [Rep]
      exact ⟨a, od, o, xs, rfl, upd_same, .inr rfl, dd, (rx.lat l1).mon Gh.freeze_mon r1.rel.ok⟩
    have := r2.put (i := i) rp
    rwa [set_same e, List.set_set] at this
  | no => exact .inl ⟨g, by rw [show frzS .no = .no from rfl, set_same h]; exact r, .refl⟩
  | val d => exact .inl ⟨g, by rw [show frzS (.val d) = .val d from rfl, set_same h]; exact r, .refl⟩
  | exc c fs => exact .inl ⟨g, by rw [show frzS (.exc c fs) = .exc c fs from rfl, set_same h]; exact r, .refl⟩
end
section
variable {X : L2.Cx} {ct : CT} {W : WX} {P : Env → Prop} {a b c : Expr} {ma mb mc : Env → M D} {tc : Env → M Bool} {st : Stmt} {rest as bs : List Stmt} {m m1 m2 : Env → M Fl} {es : List Expr} {ms : Env → M (List D)} {mo : Env → M O} {pos p q apos : Pos}
/-! ghosts -/
theorem pss_lock {ss : List Stmt} {t : TS} (h : PSs X ss t) : PSs X ss (fun D σ H => t D σ H ∨ ∃ d u, H d = some u ∧ Mut (some u) ∧ ∀ od, t D σ (upd H d (.frz od u))) := ⟨fun pins s σ H D I hw => by
  rcases hw with q | ⟨d, u, hd, mu, q⟩
  · exact h.run pins s σ H D I q
  · obtain ⟨od, I1⟩ := I.lock hd mu
    exact h.run pins s σ _ D I1 (q od)⟩
theorem pe_lockNew {e : Expr} {t : TE} (h : PE X e t) : PE X e (fun σ H Q => t σ H fun v H' => ∃ d u, H' d = some u ∧ Mut (some u) ∧ ∀ od, Q v (upd H' d (.frz od u))) := ⟨fun pins s σ H Q I hw => by
  refine thn (h.run pins s σ H _ I hw) fun v s1 ⟨x, H1, I1, r1, d, u, hd, mu, q⟩ => ?_
  obtain ⟨od, I2⟩ := I1.lock hd mu
  exact ⟨x, _, I2, r1, q od⟩⟩
theorem dss_frz {i : Nat} (hP : ∀ ρ, P ρ) (h : DSs X ct W P rest m) : DSs X ct W P rest (seqM (fun ρ => match ρ[i]? with
    | some s => ret (.nx (ρ.set i (frzS s)))
    | none => bad) m) := by
  refine L2.PSs.imp (pss_lock h) fun D σ H ⟨H₀, g₀, g, ρ, S, r, hp, h⟩ => ?_
  unfold seqM Mini.bnd at h
  dsimp only at h
  cases e : ρ[i]? with
  | none => rw [e] at h; exact h.elim
  | some s =>
    rw [e] at h
    rcases r.frz e with ⟨g', r', l⟩ | ⟨a, o, h1, mo, q⟩
    · exact .inl ⟨H₀, g₀, g', _, S, r', hP _, OutS.base h l⟩
    · refine .inr ⟨a, o, h1, mo, fun od => ?_⟩
      obtain ⟨g', r', l⟩ := q od
      exact ⟨H₀, g₀, g', _, S, r', hP _, OutS.base h l⟩
/-- a new dict, locked at once -/
theorem de_dct0 {q : Pos} : DE X ct W (.Dict [] [] q) (fun _ => ret (.dct [] [])) := by
  refine L2.PE.imp (pe_lockNew pe_dnewK) fun σ H Q ⟨g, ρ, S, r, h⟩ => ?_
  intro p hp
  refine ⟨p, .dK [], upd_same, trivial, fun od => ?_⟩
  have e : upd (upd H p (.dK [])) p (.frz od (.dK [])) = upd H p (.frz od (.dK [])) := by
    funext b
    by_cases hb : b = p
    · subst hb; rw [upd_same, upd_same]
    · rw [upd_ne hb, upd_ne hb, upd_ne hb]
  rw [e]
  refine h _ (g.freeze p) (.ref p) (r.self.frozen hp _) ?_
  rw [RD, Rep]
  exact ⟨p, od, .dK [], [], rfl, upd_same, .inr rfl, .inl ⟨[], rfl, rfl, rfl⟩, reps_nil⟩
/-- x = a new list -/
theorem RelS.give {K : Frag} {H₀ H H1 : Hp} {g₀ g g1 : Gh} {σ : St} {ρ : Env} {S S1 : Store} (r : RelS K H₀ g₀ g σ H ρ S) (r1 : RelS K H₀ g₀ g1 σ H1 ρ S1) {v : V} {o : O} (ro : RO K H H1 g1 v o) (i : Nat) : RelS K H₀ g₀ g1 (σ.set i (some v)) H1 (ρ.set i (slotOf o)) S1 := by
  obtain ⟨a, rfl, hp, nf, nm, ro⟩ := ro
  have none_of : ∀ j, ¬ ownAt σ ρ j a := fun j hj => by
    rw [ownAt_iff] at hj
    obtain ⟨⟨s, q1, q2⟩, q3⟩ := hj
    obtain ⟨v, hv, so⟩ := r.rel.env j s q1
    rw [q3] at hv; cases hv
    cases s with
    | own ds => obtain ⟨b, xs, e, h1, _⟩ := so; cases e; rw [hp] at h1; cases h1
    | ownD ks ds => obtain ⟨b, o, xs, e, h1, _⟩ := so; cases e; rw [hp] at h1; cases h1
    | _ => cases q2
  refine r1.set ?_ fun _ b e => by cases e; exact ⟨r.af.old_none hp, fun j _ => none_of j⟩
  cases o with
  | l ds => obtain ⟨xs, h1, h2⟩ := ro; exact ⟨a, xs, rfl, h1, nf, nm, h2⟩
  | d ks ds => obtain ⟨ob, xs, h1, mo, h3, h2⟩ := ro; exact ⟨a, ob, xs, rfl, h1, mo, nf, nm, h3, h2⟩
theorem ds_own {i : Nat} {x : Str} (hP : ∀ ρ, P ρ) (hN : X.N.Nodup) (hi : X.N[i]? = some x) (hx : Loc X.env.scope x) (hf : X.fn x = true ∨ X.env.scope.names.lookup x = some .local) (ha : DF X ct W a mo) (hc : notComp a = true) :
    DS X ct W P (.Assign [.Name x p] a pos) (fun ρ => bnd (mo ρ) fun o => bnd (setAt ρ i (slotOf o)) fun ρ' => ret (.nx ρ')) := by
  refine (ps_set hN hi hx ha (swaps_no hc) hf).imp fun D σ H ⟨H₀, g₀, g, ρ, S, r, hp, h⟩ => ?_
  refine ⟨g, ρ, S, r.rel, (OutS.bi (RA := RO X.K H) r hp h).mono fun v H1 ⟨g1, o, S1, af, l, ro, r1, h1⟩ => ?_⟩
  unfold setAt at h1
  by_cases hl : i < ρ.length
  · rw [if_pos hl, retE_eq] at h1
    exact h1 _ H1 g1 .refl (r.give r1 ro i) (hP _)
  · rw [if_neg hl] at h1; exact h1.elim
/-- x.append(a), x a list that this name alone holds -/
theorem ds_app {i : Nat} {x : Str} (hP : ∀ ρ, P ρ) (hN : X.N[i]? = some x) (hv : Vis X.env.scope x) (hd : (x == ("__debug__" : Str)) = false) (hcd : (x == ("__classdict__" : Str)) = false) (ha : DE X ct W a ma) (hn : noStar [a] = true) (hline : (apos.endLine == p.line) = true) :
    DS X ct W P (.Expr (.Call (.Attribute (.Name x q) "append" apos) [a] [] p) pos) (fun ρ => (match ρ[i]? with
    | some (.own xs) => bnd (ma ρ) fun d => if xs.length < line then bnd (retE (xs ++ [d])) fun zs => bnd (retE (ρ.set i (.own zs))) fun ρ' => ret (.nx ρ') else bad
    | _ => bad)) := by
  refine (ps_expr (pe_bm (t := tCons (TEv X.K ct W ma) tNil) PySem.F.plainAttrs_list PySem.F.slot_list_append PySem.F.type_list_append mt_append (pe_var hN hv hd hcd) (pa_cons ha pa_nil (star_cons hn)) rfl (by rw [star_cons hn]; rfl) hline (star_cons hn) rfl) rfl).imp fun D σ H ⟨H₀, g₀, g, ρ, S, r, hp, h⟩ => ?_
  dsimp only at h
  cases e : ρ[i]? with
  | none => rw [e] at h; exact h.elim
  | some s =>
    rw [e] at h
    cases s with
    | own xs =>
      obtain ⟨l, vs, hs, h1, nf, nm, rx, h0, own⟩ := r.ownL e
      refine ⟨.ref l, hs, .inl ⟨rfl, vs, .of h1⟩, ?_⟩
      refine ⟨g, ρ, S, r.rel, (OutS.bi (RA := RD X.K) r hp h).mono fun v H1 ⟨g1, d, S1, af, la, rv, r1, h2⟩ => ?_⟩
      obtain ⟨l', vs', hs', h1', nf', nm', rx', h0', own'⟩ := r1.ownL e
      rw [hs] at hs'; cases hs'
      obtain ⟨hz, h3⟩ := OutS.it h2
      simp only [retE_eq] at h3
      obtain ⟨r2, l2⟩ := r1.wrote e hs h1' (rx'.append (reps_cons rv reps_nil))
      exact ⟨l, vs', v, rfl, rfl, h1', by rw [rx'.length, line_eq]; exact hz, h3 σ _ g1 l2 r2 (hP _)⟩
    | _ => exact h.elim
theorem ds_ext {i : Nat} {x : Str} (hP : ∀ ρ, P ρ) (hN : X.N[i]? = some x) (hv : Vis X.env.scope x) (hd : (x == ("__debug__" : Str)) = false) (hcd : (x == ("__classdict__" : Str)) = false) (ha : DE X ct W a ma) (hn : noStar [a] = true) (hline : (apos.endLine == p.line) = true) :
    DS X ct W P (.Expr (.Call (.Attribute (.Name x q) "extend" apos) [a] [] p) pos) (fun ρ => (match ρ[i]? with
    | some (.own xs) => bnd (ma ρ) fun d => bnd (look (lstOf d)) fun ys => if xs.length + ys.length ≤ line then bnd (retE (xs ++ ys)) fun zs => bnd (retE (ρ.set i (.own zs))) fun ρ' => ret (.nx ρ') else bad
    | _ => bad)) := by
  refine (ps_expr (pe_bm (t := tCons (TEv X.K ct W ma) tNil) PySem.F.plainAttrs_list PySem.F.slot_list_extend PySem.F.type_list_extend mt_extendA (pe_var hN hv hd hcd) (pa_cons ha pa_nil (star_cons hn)) rfl (by rw [star_cons hn]; rfl) hline (star_cons hn) rfl) rfl).imp fun D σ H ⟨H₀, g₀, g, ρ, S, r, hp, h⟩ => ?_
  dsimp only at h
  cases e : ρ[i]? with
  | none => rw [e] at h; exact h.elim
  | some s =>
    rw [e] at h
    cases s with
    | own xs =>
      obtain ⟨l, vs, hs, h1, nf, nm, rx, h0, own⟩ := r.ownL e
      refine ⟨.ref l, hs, .inl ⟨rfl, vs, .of h1⟩, ?_⟩
      refine ⟨g, ρ, S, r.rel, (OutS.bi (RA := RD X.K) r hp h).mono fun v H1 ⟨g1, d, S1, af, la, rv, r1, h2⟩ => ?_⟩
      obtain ⟨l', vs', hs', h1', nf', nm', rx', h0', own'⟩ := r1.ownL e
      rw [hs] at hs'; cases hs'
      obtain ⟨ys, hy, h3⟩ := OutS.lk h2
      obtain ⟨hz, h4⟩ := OutS.it h3
      simp only [retE_eq] at h4
      obtain ⟨b, us, rfl, hb, ru⟩ := lst_at af.here rv hy
      obtain ⟨r2, l2⟩ := r1.wrote e hs h1' (rx'.append ru)
      exact ⟨l, b, vs', us, rfl, rfl, h1', hb, by rw [rx'.length, ru.length, line_eq]; exact hz, h4 σ _ g1 l2 r2 (hP _)⟩
    | _ => exact h.elim
theorem place_out {K : Frag} {H₀ H : Hp} {g₀ g : Gh} {D : Ends} {S : Store} {md : Mode} {o : O} {W' : Value → Option Addr → Hp → Prop} (h : OutS K ct P H₀ g₀ H g W D (bnd (place md o) (fun d => ret (.rt d)) S)) : Out K ct H₀ g₀ W' (RD K) D.rt (place md o S) := by
  cases md <;> cases o <;> exact h
/-- return x, x a list that this name alone holds -/
theorem ds_retO {i : Nat} {x : Str} {md : Mode} (hN : X.N[i]? = some x) (hv : Vis X.env.scope x) (hd : (x == ("__debug__" : Str)) = false) (hcd : (x == ("__classdict__" : Str)) = false) :
    DS X ct W P (.Return (some (.Name x q)) pos) (fun ρ => (match ρ[i]? with
    | some (.own xs) => bnd (place md (.l xs)) fun d => ret (.rt d)
    | some (.ownD ks vs) => bnd (place md (.d ks vs)) fun d => ret (.rt d)
    | _ => bad)) := by
  refine (ps_ret (pe_var hN hv hd hcd)).imp fun D σ H ⟨H₀, g₀, g, ρ, S, r, hp, h⟩ => ?_
  dsimp only at h
  cases e : ρ[i]? with
  | none => rw [e] at h; exact h.elim
  | some s =>
    rw [e] at h
    cases s with
    | own xs =>
      obtain ⟨l, vs, hs, h1, nf, nm, rx, h0, own⟩ := r.ownL e
      exact ⟨.ref l, hs, place_ok (W := fun _ _ _ => True) (place_out h) H g (.ref l) r.af ⟨l, rfl, h0, nf, nm, vs, h1, rx⟩⟩
    | ownD ks xs =>
      obtain ⟨v, hs, l, o, vs, rfl, h1, mo, nf, nm, dd, rx⟩ := r.rel.env i _ e
      have h0 := r.new i l (ownAt_iff.mpr ⟨⟨_, e, rfl⟩, hs⟩)
      exact ⟨.ref l, hs, place_ok (W := fun _ _ _ => True) (place_out h) H g (.ref l) r.af ⟨l, rfl, h0, nf, nm, o, vs, h1, mo, dd, rx⟩⟩
    | _ => exact h.elim
/-! ### o[i] = v, o a list of the store -/
theorem ds_setC (ha : DE X ct W a ma) (hb : DE X ct W b mb) (hc : DE X ct W c mc) (hs : swapsWithSole [.Subscript b c p] a pos.line X.env = pure false) (hw : swappedStores [.Subscript b c p] a X.env = pure none)
    (hg : ∀ v, assign (.Subscript b c p) X.env v = (do
      let ov ← holding [v] (eval b X.env)
      let iv ← holding [v, ov] (eval c X.env)
      standAt p
      holding [v, ov, iv] (setItem ov iv v)
      release [v, ov, iv] [])) :
    DS X ct W P (.Assign [.Subscript b c p] a pos) (fun ρ => bnd (ma ρ) fun d => bnd (mb ρ) fun x => bnd (mc ρ) fun k => (match x with
    | .loc l => fun S => match S[l]? with
      | some c => (match setCell c k d with
        | some c' => .ok (.nx ρ) (S.set l c')
        | none => .bad)
      | none => .bad
    | _ => bad)) := by
  refine (ps_asg ha (pg_sub hb hc set_list hg) hs hw rfl).imp fun D σ H ⟨H₀, g₀, g, ρ, S, r, hp, h⟩ => ?_
  refine ⟨g, ρ, S, r.rel, (OutS.bi (RA := RD X.K) r hp h).mono fun v H1 ⟨g1, d, S1, af, la, rv, r1, h1⟩ => ?_⟩
  refine ⟨g1, ρ, S1, r1.rel, (OutS.bi (RA := RD X.K) r1 hp h1).mono fun o H2 ⟨g2, x, S2, af2, la2, ro, r2, h2⟩ => ?_⟩
  refine ⟨g2, ρ, S2, r2.rel, (OutS.bi (RA := RD X.K) r2 hp h2).mono fun j H3 ⟨g3, k, S3, af3, la3, rj, r3, h3⟩ => ?_⟩
  have rv3 := (rv.ext af2.ext af.ok).ext af3.ext af2.ok
  have ro3 := ro.ext af3.ext af2.ok
  cases x with
  | loc l =>
    dsimp only at h3
    cases e : S3[l]? with
    | none => rw [e] at h3; exact h3.elim
    | some ce =>
      rw [e] at h3
      cases ce with
      | dct _ _ => exact h3.elim
      | lst ds =>
        obtain ⟨q, xs, rfl, hμ, hH, rx⟩ := cell_at af3.here ro3 e
        cases k with
        | int i =>
          dsimp only [setCell] at h3
          cases e2 : ixN ds.length i with
          | none => rw [e2] at h3; exact h3.elim
          | some n =>
            rw [e2] at h3
            have aw := af3.here.wroteL hμ (rx.set rv3 n)
            have := h3 σ _ g3 (aw.ext.lat r3.rel.ok) (r3.after aw) hp
            exact ⟨q, xs, i, n, rfl, rj.int_inv, hH, by rw [rx.length]; exact e2, this⟩
        | _ => exact h3.elim
  | _ => exact h3.elim
end
end Mini

set_option maxHeartbeats 4000000
/-! MINI, part 16: what is walked; loops. -/
namespace L2
open PySem PySem.Spec PyProof.Rows
section
variable {X : Cx} {tg : Expr}
/-- a list, a tuple, a text -/
def iAny (K : PySem.W.Frag) (tl : TE) : TI := fun σ H R => tl σ H fun x H1 => (∃ a, x = .ref a ∧ (∃ xs, SqL K H1 a xs) ∧ R (Itl K a) H1) ∨ (∃ a, x = .ref a ∧ (∃ xs, SqT K H1 a xs) ∧ R (Itt K a) H1) ∨ (∃ z, x = .str z ∧ R (Its z) H1) ∨ ∃ a o, x = .ref a ∧ ((∃ kvs, H1 a = some (.frz o (.dK kvs)) ∧ R (Itk a o kvs) H1) ∨ ∃ kvs, H1 a = some (.frz o (.dT kvs)) ∧ R (Itkt a o kvs) H1)
theorem pi_any {l : Expr} {tl : TE} (hl : PE X l tl) : PI X tg l (iAny X.K tl) := by
  refine ⟨fun pins s σ H R I h => ?_⟩
  refine thn (hl.run pins s σ H _ I h) fun v s1 ⟨x, H1, I1, r1, q1⟩ => ?_
  rcases q1 with ⟨a, e, ⟨xs, hq⟩, q⟩ | ⟨a, e, ⟨xs, hq⟩, q⟩ | ⟨z, e, q⟩ | ⟨a, o, e, q⟩
  · subst e
    cases r1
    obtain ⟨its, rv, p, hz⟩ := I1.list hq
    refine wpAny_pyIter_list p.isList ?_
    refine ⟨s1.heap.objs.size, [s1.heap.objs.size], _, _, H1, rfl, I1.kept (t' := s1.toks) fun b o e => Heap.get?_push_of_some _ e, turn_list a _, ⟨_, Heap.get?_push_size _ rfl, rfl, rfl⟩, fun b hb => ?_, q⟩
    have e : b = s1.heap.objs.size := by simpa using hb
    subst e
    exact I1.fpOk (Nat.le_refl _) (I1.hok.fresh (Nat.le_refl _))
  · subst e
    cases r1
    obtain ⟨its, rv, p, hz⟩ := I1.tuple hq
    refine wpAny_pyIter_tuple (show s1.heap.IsTuple a its.toArray from p) ?_
    refine ⟨s1.heap.objs.size, [s1.heap.objs.size], _, _, H1, rfl, I1.kept (t' := s1.toks) fun b o e => Heap.get?_push_of_some _ e, turn_tuple a _, ⟨_, Heap.get?_push_size _ rfl, rfl, rfl⟩, fun b hb => ?_, q⟩
    have e : b = s1.heap.objs.size := by simpa using hb
    subst e
    exact I1.fpOk (Nat.le_refl _) (I1.hok.fresh (Nat.le_refl _))
  · subst e
    obtain ⟨t, rfl⟩ := r1
    cases ha : z.cps.all (· < 128)
    · exact wpAny_pyIter_wide ha (pi_one (tk := s1.toks) I1 _ (turn_str _ z t "str_iterator" (.inr rfl)) ⟨_, Heap.get?_push_size _ rfl, rfl, rfl⟩ q)
    · exact wpAny_pyIter_ascii ha (pi_one (tk := s1.toks) I1 _ (turn_str _ z t "str_ascii_iterator" (.inl rfl)) ⟨_, Heap.get?_push_size _ rfl, rfl, rfl⟩ q)
  · subst e
    cases r1
    rcases q with ⟨kvs, q1, q⟩ | ⟨kvs, q1, q⟩
    · obtain ⟨b1, b2, b3, eo, po, so, b4, b5, b6, b7⟩ := I1.frzK q1
      refine iter_keys b1 b2 b3 b4 (pi_one (tk := s1.toks) I1 _ (turn_keys _ b4) ⟨_, Heap.get?_push_size _ rfl, rfl, ?_⟩ q)
      rw [b5] <;> rfl
    · obtain ⟨b1, b2, b3, eo, po, b4, b5, b6⟩ := I1.frzT q1
      refine iter_keys b1 b2 b3 b4 (pi_one (tk := s1.toks) I1 _ (turn_keysT _ b4) ⟨_, Heap.get?_push_size _ rfl, rfl, ?_⟩ q)
      rw [b5] <;> rfl
theorem _root_.L2.PI.imp {e : Expr} {t t' : TI} (h : PI X tg e t) (i : ∀ σ H Q, t' σ H Q → t σ H Q) : PI X tg e t' := ⟨fun pins s σ H R I q => h.run pins s σ H R I (i σ H R q)⟩
end
end L2
namespace Mini
open PySem PySem.Spec PyProof.Rows L2
section
variable {K : Frag} {H H' H1 : Hp} {g g' g1 : Gh}
theorem lat_laid {p : Addr} {o : HO} (ok : Gok H g) (hp : H p = none) : Lat H g (upd H p o) g :=
  ⟨fun b f => ⟨f, upd_ne fun (e : b = p) => by obtain ⟨⟨u, h⟩, _⟩ := ok.fz b f; rw [e, hp] at h; cases h⟩, ⟨[], by simp⟩, fun b u h _ => by rw [upd_ne (fun (e : b = p) => by rw [e, hp] at h; cases h)]; exact h⟩
/-- the walk J yields what ds says, whatever else changes -/
def Yields (K : Frag) (J : It) (H1 : Hp) (g1 : Gh) (ds : List D) : Prop := ∀ H' g', Lat H1 g1 H' g' → Gok H' g' → ∀ i : Nat,
  (∀ d, ds[i]? = some d → J.go i H' ∧ ∀ x H'', J.yld i H' x H'' → (H'' = H' ∨ ∃ p xs, H' p = none ∧ H'' = upd H' p (.tup xs)) ∧ Rep K H'' g' x d) ∧ (ds.length = i → J.stop i H')
def RYd (K : Frag) : Hp → Gh → It → List D → Prop := fun H1 g1 J ds => Yields K J H1 g1 ds
def TIv (K : Frag) (ct : CT) (W : WX) (m : Env → M (List D)) : TI := fun σ H R => ∃ g ρ S, Rel K g σ H ρ S ∧ Out K ct H g (fun c d H' => W c d σ H') (RYd K) R (m ρ S)
abbrev DI (X : L2.Cx) (ct : CT) (W : WX) (tg e : Expr) (m : Env → M (List D)) : Prop := PI X tg e (TIv X.K ct W m)
/-- a list that stays -/
def LatL (K : Frag) (H1 : Hp) (g1 : Gh) (a : Addr) (xs : List V) : Prop := ∀ H' g', Lat H1 g1 H' g' → SqL K H' a xs
theorem yields_list {a : Addr} {xs : List V} {ds : List D} (h : LatL K H g a xs) (r : Reps K H g xs ds) : Yields K (Itl K a) H g ds := fun H' g' l ok i =>
  ⟨fun d hd => by
    obtain ⟨v, h1, h2⟩ := (r.lat l).get hd
    refine ⟨⟨xs, v, h H' g' l, h1⟩, fun x H'' ⟨e, q⟩ => ?_⟩
    subst e
    have := q xs (h _ g' l)
    rw [h1] at this; cases this
    exact ⟨.inl rfl, h2⟩, fun hl => ⟨xs, h H' g' l, by rw [r.length]; exact Nat.le_of_eq hl⟩⟩
theorem yields_tup {a : Addr} {xs : List V} {ds : List D} (h : SqT K H a xs) (r : Reps K H g xs ds) : Yields K (Itt K a) H g ds := fun H' g' l ok i =>
  ⟨fun d hd => by
    obtain ⟨v, h1, h2⟩ := (r.lat l).get hd
    refine ⟨⟨xs, v, l.sqT h, h1⟩, fun x H'' ⟨e, q⟩ => ?_⟩
    subst e
    have := q xs (l.sqT h)
    rw [h1] at this; cases this
    exact ⟨.inl rfl, h2⟩, fun hl => ⟨xs, l.sqT h, by rw [r.length]; exact Nat.le_of_eq hl⟩⟩
theorem rep_key (k : Key) : Rep K H g (kV k) (keyD k) := by cases k <;> (unfold keyD kV; rw [Rep])
theorem reps_keys : ∀ ks : List Key, Reps K H g (ks.map kV) (ks.map keyD)
  | [] => reps_nil
  | k :: ks => reps_cons (rep_key k) (reps_keys ks)
theorem yields_keysK {a : Addr} {o : Obj} {kvs : List (Key × V)} (h : H a = some (.frz o (.dK kvs))) (f : g.F a) : Yields K (Itk a o kvs) H g (kvs.map fun p => keyD p.1) := fun H' g' l ok i => by
  have h' : H' a = some (.frz o (.dK kvs)) := (l.fz a f).2.trans h
  refine ⟨fun d hd => ?_, fun hl => ⟨h', by rw [List.length_map] at hl; exact Nat.le_of_eq hl⟩⟩
  rw [List.getElem?_map] at hd
  obtain ⟨p, hp, rfl⟩ := Option.map_eq_some_iff.mp hd
  refine ⟨⟨h', (List.getElem?_eq_some_iff.mp hp).1⟩, fun x H'' ⟨e, k, v, q, ex⟩ => ⟨.inl e, ?_⟩⟩
  rw [hp] at q
  cases q
  subst ex
  cases k <;> (show Rep K H'' g' _ _; unfold keyD kV; rw [Rep])
theorem yields_keysT {a : Addr} {o : Obj} {kvs : List (List Key × V)} (h : H a = some (.frz o (.dT kvs))) (f : g.F a) : Yields K (Itkt a o kvs) H g (kvs.map fun p => D.tup (p.1.map keyD)) := fun H' g' l ok i => by
  have h' : H' a = some (.frz o (.dT kvs)) := (l.fz a f).2.trans h
  refine ⟨fun d hd => ?_, fun hl => ⟨h', by rw [List.length_map] at hl; exact Nat.le_of_eq hl⟩⟩
  rw [List.getElem?_map] at hd
  obtain ⟨p, hp, rfl⟩ := Option.map_eq_some_iff.mp hd
  refine ⟨⟨h', (List.getElem?_eq_some_iff.mp hp).1⟩, fun x H'' ⟨e, k, v, b, q, ex, hb⟩ => ⟨.inl e, ?_⟩⟩
  rw [hp] at q
  cases q
  subst ex e
  rw [Rep]
  exact ⟨b, k.map kV, rfl, .inl (.inl hb), reps_keys k⟩
theorem yields_str {z : Str} : Yields K (Its z) H g (strItems z) := fun H' g' l ok i =>
  ⟨fun d hd => by
    unfold strItems at hd
    rw [List.getElem?_map] at hd
    obtain ⟨c, h1, rfl⟩ := Option.map_eq_some_iff.mp hd
    have h2 : z.cps[i]? = some c := by rw [← Array.getElem?_toList]; exact h1
    refine ⟨(Array.getElem?_eq_some_iff.mp h2).1, fun x H'' ⟨e, c', q, ex⟩ => ?_⟩
    subst e; subst ex
    rw [h2] at q; cases q
    exact ⟨.inl rfl, rep_str⟩, fun hl => by
    unfold strItems at hl
    show z.cps.size ≤ i
    exact Nat.le_of_eq (by simpa using hl)⟩
theorem yields_rng {lo : Int} {n : Nat} : Yields K (Itr lo n) H g ((List.range n).map fun k => D.int (lo + (k : Nat))) := fun H' g' l ok i =>
  ⟨fun d hd => by
    rw [List.getElem?_map] at hd
    obtain ⟨c, h1, rfl⟩ := Option.map_eq_some_iff.mp hd
    have hn := (List.getElem?_eq_some_iff.mp h1)
    have hi : i < n := by simpa using hn.1
    have ec : c = i := by have := hn.2; simpa using this.symm
    subst ec
    refine ⟨hi, fun x H'' ⟨e, ex⟩ => ?_⟩
    subst e; subst ex
    exact ⟨.inl rfl, rep_int⟩, fun hl => by
    show n ≤ i
    exact Nat.le_of_eq (by simpa using hl)⟩
theorem frz_at {v : V} {d : D} {ds : List D} (ok : Gok H g) (rv : Rep K H g v d) (h : frzOf d = some ds) :
    (∃ a xs, v = .ref a ∧ LatL K H g a xs ∧ Reps K H g xs ds) ∨ (∃ a xs, v = .ref a ∧ SqT K H a xs ∧ Reps K H g xs ds) ∨ (∃ z, v = .str z ∧ ds = strItems z ∧ d = .str z) ∨ ∃ a ob o ks, v = .ref a ∧ H a = some (.frz ob o) ∧ g.F a ∧ (∃ xs, DicOf o ds xs) ∧ ∃ vs, d = .dct ks vs := by
  cases d with
  | tup es => cases h; exact .inr (.inl rv.tup_inv)
  | dct es vs =>
    cases h
    rw [Rep] at rv
    obtain ⟨a, ob, o, xs, e, h1, f, h2, h3⟩ := rv
    exact .inr (.inr (.inr ⟨a, ob, o, _, e, h1, f, ⟨xs, h2⟩, vs, rfl⟩))
  | lst es =>
    cases h
    rw [Rep] at rv
    obtain ⟨a, xs, e, h1, h2⟩ := rv
    refine .inl ⟨a, xs, e, fun H' g' l => ?_, h2⟩
    rcases h1 with ⟨h1, f⟩ | h1
    · exact .inl (l.rd f h1)
    · exact ExL.sq (H := H') (.inr h1)
  | scr es =>
    cases h
    rw [Rep] at rv
    obtain ⟨a, xs, e, h1, h2⟩ := rv
    refine .inl ⟨a, xs, e, fun H' g' l => ?_, h2⟩
    rcases h1 with ⟨h1, f⟩ | h1
    · exact .inl (l.rd f h1)
    · exact ScL.sq (g := g) (.inr h1)
  | str z =>
    replace h : (if z.length ≤ line then some (strItems z) else none) = some ds := h
    split at h
    · cases h; exact .inr (.inr (.inl ⟨z, rv.str_inv, rfl, rfl⟩))
    · cases h
  | _ => cases h
theorem LatL.now {a : Addr} {xs : List V} (h : LatL K H g a xs) : SqL K H a xs := h H g .refl
end
section
variable {X : L2.Cx} {ct : CT} {W : WX} {P : Env → Prop} {a b c tg : Expr} {ma mb mc : Env → M D} {tc : Env → M Bool} {st : Stmt} {rest as bs : List Stmt} {m m1 m2 : Env → M Fl} {mi : Env → M (List D)} {es : List Expr} {ms : Env → M (List D)} {mo : Env → M O} {pos p q apos : Pos}
theorem di_seq (ha : DE X ct W a ma) : DI X ct W tg a (fun ρ => bnd (ma ρ) fun x => bnd (lift (frzOf x)) fun xs => ret xs) := by
  refine (pi_any ha).imp fun σ H R ⟨g, ρ, S, r, h⟩ => ⟨g, ρ, S, r, (Out.bi (RA := RD X.K) h).mono fun v H1 ⟨g1, d, S1, af, rv, h1⟩ => ?_⟩
  obtain ⟨ds, hd, h2⟩ := Out.lf h1
  rcases frz_at af.ok rv hd with ⟨l, xs, rfl, h3, h4⟩ | ⟨l, xs, rfl, h3, h4⟩ | ⟨z, rfl, rfl, _⟩ | ⟨l, ob, o, ks, rfl, h3, f, ⟨xs, h4⟩, _⟩
  · exact .inl ⟨l, rfl, ⟨xs, h3.now⟩, h2 H1 g1 _ af.here (yields_list h3 h4)⟩
  · exact .inr (.inl ⟨l, rfl, ⟨xs, h3⟩, h2 H1 g1 _ af.here (yields_tup h3 h4)⟩)
  · exact .inr (.inr (.inl ⟨z, rfl, h2 H1 g1 _ af.here yields_str⟩))
  · rcases h4 with ⟨kvs, rfl, rfl, _⟩ | ⟨kvs, rfl, rfl, _⟩
    · exact .inr (.inr (.inr ⟨l, ob, rfl, .inl ⟨kvs, h3, h2 H1 g1 _ af.here (yields_keysK h3 f)⟩⟩))
    · exact .inr (.inr (.inr ⟨l, ob, rfl, .inr ⟨kvs, h3, h2 H1 g1 _ af.here (yields_keysT h3 f)⟩⟩))
theorem rangeOk_of {j : Int} (h : rangeOk j = true) : -(2 ^ 62) ≤ j ∧ j < 2 ^ 62 := by
  unfold rangeOk at h
  have := (Nat.blt_eq).mp h
  omega
theorem di_range1 (hg : Gl X "range") (hm : X.mg "range" = none) (ha : DE X ct W a ma) (hn : noStar [a] = true) : DI X ct W tg (.Call (.Name "range" p) [a] [] pos) (fun ρ => bnd (ma ρ) fun x => bnd (lift (asInt x)) fun j => if rangeOk j then ret (rangeL 0 j) else bad) := by
  refine (pi_range1 (ta := tCons (TEv X.K ct W ma) tNil) hg hm (pa_cons ha pa_nil (star_cons hn)) (star_cons hn)).imp fun σ H R ⟨g, ρ, S, r, h⟩ => ⟨g, ρ, S, r, (Out.bi (RA := RD X.K) h).mono fun v H1 ⟨g1, d, S1, af, rv, h1⟩ => ?_⟩
  obtain ⟨j, hj, h2⟩ := Out.lf h1
  obtain ⟨hr, h3⟩ := Out.it h2
  obtain ⟨l1, l2⟩ := rangeOk_of hr
  cases d with
  | int i =>
    cases hj
    refine ⟨j, by rw [rv.int_inv], l1, l2, h3 H1 g1 _ af.here ?_⟩
    have := yields_rng (K := X.K) (H := H1) (g := g1) (lo := 0) (n := j.toNat)
    unfold RYd rangeL
    rw [show (j - 0).toNat = j.toNat from by rw [Int.sub_zero]]
    exact this
  | _ => cases hj
theorem di_range2 (hg : Gl X "range") (hm : X.mg "range" = none) (ha : DE X ct W a ma) (hb : DE X ct W b mb) (hn : noStar [a, b] = true) : DI X ct W tg (.Call (.Name "range" p) [a, b] [] pos) (fun ρ => bnd (ma ρ) fun x => bnd (mb ρ) fun y => bnd (lift (asInt x)) fun i => bnd (lift (asInt y)) fun j => if rangeOk i && rangeOk j then ret (rangeL i j) else bad) := by
  refine (pi_range2 (ta := tCons (TEv X.K ct W ma) (tCons (TEv X.K ct W mb) tNil)) hg hm (pa_cons ha (pa_cons hb pa_nil (star_cons (noStar_tail hn))) (star_cons hn)) (by rw [star_cons hn, star_cons (noStar_tail hn)]; rfl) (by rw [star_cons (noStar_tail hn)]; rfl)).imp fun σ H R ⟨g, ρ, S, r, h⟩ => ⟨g, ρ, S, r, (Out.bi (RA := RD X.K) h).mono fun v H1 ⟨g1, d, S1, af, rv, h1⟩ => ?_⟩
  refine ⟨g1, ρ, S1, r.after af, (Out.bi (RA := RD X.K) h1).mono fun u H2 ⟨g2, e, S2, af2, ru, h2⟩ => ?_⟩
  obtain ⟨i, hi, h3⟩ := Out.lf h2
  obtain ⟨j, hj, h4⟩ := Out.lf h3
  obtain ⟨hr, h5⟩ := Out.it h4
  rw [Bool.and_eq_true] at hr
  obtain ⟨l1, l2⟩ := rangeOk_of hr.1
  obtain ⟨l3, l4⟩ := rangeOk_of hr.2
  cases d with
  | int i' =>
    cases hi
    cases e with
    | int j' =>
      cases hj
      exact ⟨i, j, by rw [rv.int_inv, ru.int_inv], ⟨l1, l2, l3, l4⟩, h5 H2 g2 _ af2.here yields_rng⟩
    | _ => cases hj
  | _ => cases hi
/-! ### loops -/
theorem OutS.flow {K : Frag} {H₀ H : Hp} {g₀ g : Gh} {D : Ends} {S : Store} {m : M Fl} {k : Env → M Fl} {k2 : Env → M Fl} (h : OutS K ct P H₀ g₀ H g W D (bnd m (fun f => match f with
      | .nx ρ' => k ρ'
      | .ct ρ' => k ρ'
      | .bk ρ' => ret (.nx ρ')
      | .rt d => ret (.rt d)) S)) {N : St → Hp → Prop} (hN : ∀ ρ' S' σ' H' g', Lat H g H' g' → RelS K H₀ g₀ g' σ' H' ρ' S' → P ρ' → OutS K ct P H₀ g₀ H' g' W D (k ρ' S') → N σ' H') :
    OutS K ct P H₀ g₀ H g W { D with nx := N, ct := N, bk := D.nx } (m S) := by
  unfold Mini.bnd at h
  cases e : m S with
  | ok f S1 =>
    rw [e] at h
    cases f with
    | nx ρ' => exact fun σ' H' g' l r' hp' => hN ρ' S1 σ' H' g' l r' hp' (OutS.base h l)
    | ct ρ' => exact fun σ' H' g' l r' hp' => hN ρ' S1 σ' H' g' l r' hp' (OutS.base h l)
    | bk ρ' => exact h
    | rt d => exact h
  | err c fs S1 => rw [e] at h; exact h
  | bad => rw [e] at h; exact h.elim
theorem RelS.tupd {K : Frag} {H₀ H : Hp} {g₀ g : Gh} {σ : St} {ρ : Env} {S : Store} (r : RelS K H₀ g₀ g σ H ρ S) {H'' : Hp} (h : H'' = H ∨ ∃ p xs, H p = none ∧ H'' = upd H p (.tup xs)) : RelS K H₀ g₀ g σ H'' ρ S ∧ Lat H g H'' g := by
  rcases h with rfl | ⟨p, xs, hp, rfl⟩
  · exact ⟨r, .refl⟩
  · exact ⟨r.after (r.rel.self.laid hp _), lat_laid r.rel.ok hp⟩
theorem ds_for {t : T} (hP : ∀ ρ, P ρ) (hps : PassesOwn (model X.prog X.w) X.A X.env X.xe) (hc : X.calm = true) (hi : DI X ct W tg a mi) (hg : DG X tg t.vars (asgO t)) (hb : DSs X ct W P bs m) (hs : ∀ x, foldedSetIterable a X.env x = pure x) :
    DS X ct W P (.For tg a bs [] pos) (fun ρ => bnd (mi ρ) fun xs => forM (fun x ρ' => bnd (asgT t x ρ') fun ρ2 => m ρ2) xs ρ) := by
  refine (ps_for hps hc hi hg hb hs).imp fun D σ H ⟨H₀, g₀, g, ρ, S, r, hp, h⟩ => ?_
  refine ⟨g, ρ, S, r.rel, (OutS.bi (RA := RYd X.K) r hp h).mono fun J H1 ⟨g1, ds, S1, af, la, hy, r1, h1⟩ => ?_⟩
  refine ⟨fun i n σ H => n + i = ds.length ∧ ∃ g ρ S, Lat H1 g1 H g ∧ RelS X.K H₀ g₀ g σ H ρ S ∧ P ρ ∧ OutS X.K ct P H₀ g₀ H g W D (forM (fun x ρ' => bnd (asgT t x ρ') fun ρ2 => m ρ2) (ds.drop i) ρ S), ⟨ds.length, by simp, g1, ρ, S1, .refl, r1, hp, h1⟩, ?_⟩
  rintro i n σ2 H2 ⟨hn, g2, ρ2, S2, l2, r2, hp2, h2⟩
  obtain ⟨y1, y2⟩ := hy H2 g2 l2 r2.rel.ok i
  by_cases hi2 : i < ds.length
  · right
    obtain ⟨go, yld⟩ := y1 ds[i] (List.getElem?_eq_getElem hi2)
    refine ⟨go, fun σ' H' => i + 1 + (n - 1) = ds.length ∧ 0 < n ∧ ∃ g ρ S, Lat H1 g1 H' g ∧ RelS X.K H₀ g₀ g σ' H' ρ S ∧ P ρ ∧ OutS X.K ct P H₀ g₀ H' g W D (forM (fun x ρ' => bnd (asgT t x ρ') fun ρ2 => m ρ2) (ds.drop (i + 1)) ρ S), fun σ' H' ⟨e1, e2, q⟩ => ⟨n - 1, by omega, by omega, q⟩, fun x H3 hx => ?_⟩
    obtain ⟨h3, rx⟩ := yld x H3 hx
    obtain ⟨r3, l3⟩ := r2.tupd h3
    rw [List.drop_eq_getElem_cons hi2, forM] at h2
    have h4 := OutS.base h2 l3
    have h4 : OutS X.K ct P H₀ g₀ H3 g2 W D (bnd (bnd (bnd (lift (asgO t ds[i] ρ2)) retE) fun ρ2 => m ρ2) (fun f => match f with
      | .nx ρ' => forM (fun x ρ' => bnd (asgT t x ρ') fun ρ2 => m ρ2) (ds.drop (i + 1)) ρ'
      | .ct ρ' => forM (fun x ρ' => bnd (asgT t x ρ') fun ρ2 => m ρ2) (ds.drop (i + 1)) ρ'
      | .bk ρ' => ret (.nx ρ')
      | .rt d => ret (.rt d)) S2) := h4
    cases e : asgO t ds[i] ρ2 with
    | none => rw [e] at h4; exact h4.elim
    | some ρ3 =>
      rw [e] at h4
      have h4 : OutS X.K ct P H₀ g₀ H3 g2 W D (bnd (bnd (retE ρ3) fun ρ2 => m ρ2) (fun f => match f with
      | .nx ρ' => forM (fun x ρ' => bnd (asgT t x ρ') fun ρ2 => m ρ2) (ds.drop (i + 1)) ρ'
      | .ct ρ' => forM (fun x ρ' => bnd (asgT t x ρ') fun ρ2 => m ρ2) (ds.drop (i + 1)) ρ'
      | .bk ρ' => ret (.nx ρ')
      | .rt d => ret (.rt d)) S2) := h4
      rw [retE_eq] at h4
      refine ⟨g2, ρ2, S2, ds[i], r3.rel, rx, ρ3, e, fun σ3 _ r4 w4 => ⟨H₀, g₀, g2, ρ3, S2, r3.to r4 w4, hP ρ3, ?_⟩⟩
      refine OutS.flow (k2 := fun _ => bad) h4 fun ρ' S' σ' H' g' l r' hp' q => ⟨by omega, by omega, g', ρ', S', (l2.trans l3).trans l, r', hp', q⟩
  · left
    refine ⟨y2 (by omega), ?_⟩
    rw [List.drop_eq_nil_of_le (by omega), forM] at h2
    exact h2 σ2 H2 g2 .refl r2 hp2
theorem ds_forL {t : T} {N0 : Nat} (hP : ∀ ρ, P ρ) (hps : PassesOwn (model X.prog X.w) X.A X.env X.xe) (hc : X.calm = true) (ha : DE X ct W a ma) (hg : DG X tg t.vars (asgO t)) (hb : DSs X ct W P bs m) (hs : ∀ x, foldedSetIterable a X.env x = pure x) :
    DS X ct W P (.For tg a bs [] pos) (fun ρ => bnd (ma ρ) fun d => (match d with
    | .loc l => liveM (fun x ρ' => bnd (asgT t x ρ') fun ρ2 => m ρ2) l N0 0 ρ
    | _ => bad)) := by
  refine (ps_for hps hc (pi_any ha) hg hb hs).imp fun D σ H ⟨H₀, g₀, g, ρ, S, r, hp, h⟩ => ?_
  refine ⟨g, ρ, S, r.rel, (OutS.bi (RA := RD X.K) r hp h).mono fun v H1 ⟨g1, d, S1, af, la, rv, r1, h1⟩ => ?_⟩
  cases d with
  | loc l =>
    -- the cell's address
    rw [RD, Rep] at rv
    obtain ⟨ad, rfl, hμ⟩ := rv
    have live : ∀ {N i H' g' S' ρ' σ'}, RelS X.K H₀ g₀ g' σ' H' ρ' S' → g'.μ[l]? = some ad → OutS X.K ct P H₀ g₀ H' g' W D (liveM (fun x ρ' => bnd (asgT t x ρ') fun ρ2 => m ρ2) l N i ρ' S') →
        ∃ N' es vs, N = N' + 1 ∧ S'[l]? = some (.lst es) ∧ H' ad = some (.lst vs) ∧ Reps X.K H' g' vs es := fun {N i H' g' S' ρ' σ'} r' hm h' => by
      cases N with
      | zero => exact h'.elim
      | succ N' =>
        rw [liveM] at h'
        obtain ⟨o, ho, _⟩ := OutS.lk h'
        cases e : S'[l]? with
        | none => rw [e] at ho; cases ho
        | some ce =>
          rw [e] at ho
          cases ce with
          | dct _ _ => cases ho
          | lst es =>
            obtain ⟨b, hb, vs, h2, h3⟩ := r'.rel.cells l _ e
            rw [hm] at hb; cases hb
            exact ⟨N', es, vs, rfl, rfl, h2, h3⟩
    obtain ⟨N', es, vs, eN, eS, eH, er⟩ := live r1 hμ h1
    refine .inl ⟨ad, rfl, ⟨vs, .of eH⟩, ?_⟩
    refine ⟨fun i n σ H => ∃ g ρ S, Lat H1 g1 H g ∧ RelS X.K H₀ g₀ g σ H ρ S ∧ P ρ ∧ OutS X.K ct P H₀ g₀ H g W D (liveM (fun x ρ' => bnd (asgT t x ρ') fun ρ2 => m ρ2) l n i ρ S), ⟨N0, g1, ρ, S1, .refl, r1, hp, h1⟩, ?_⟩
    rintro i n σ2 H2 ⟨g2, ρ2, S2, l2, r2, hp2, h2⟩
    have hμ2 : g2.μ[l]? = some ad := by
      obtain ⟨mm, em⟩ := l2.mu
      rw [em, List.getElem?_append_left (List.getElem?_eq_some_iff.mp hμ).1]
      exact hμ
    obtain ⟨n', es2, vs2, rfl, eS2, eH2, er2⟩ := live r2 hμ2 h2
    rw [liveM] at h2
    obtain ⟨o, ho, h3⟩ := OutS.lk h2
    rw [eS2] at ho
    cases ho
    cases ex : es2[i]? with
    | none =>
      rw [ex] at h3
      left
      refine ⟨⟨vs2, .of eH2, ?_⟩, h3 σ2 H2 g2 .refl r2 hp2⟩
      rw [er2.length]
      exact List.getElem?_eq_none_iff.mp ex
    | some d =>
      rw [ex] at h3
      dsimp only at h3
      right
      obtain ⟨x, hx, rx⟩ := er2.get ex
      refine ⟨⟨vs2, x, .of eH2, hx⟩, fun σ' H' => ∃ g ρ S, Lat H1 g1 H' g ∧ RelS X.K H₀ g₀ g σ' H' ρ S ∧ P ρ ∧ OutS X.K ct P H₀ g₀ H' g W D (liveM (fun x ρ' => bnd (asgT t x ρ') fun ρ2 => m ρ2) l n' (i + 1) ρ S), fun σ' H' q => ⟨n', by omega, q⟩, fun x' H3 ⟨e3, q3⟩ => ?_⟩
      subst e3
      have q4 := q3 vs2 (.of eH2)
      rw [hx] at q4
      cases q4
      have h3 : OutS X.K ct P H₀ g₀ H3 g2 W D (bnd (bnd (bnd (lift (asgO t d ρ2)) retE) fun ρ2 => m ρ2) (fun f => match f with
        | .nx ρ' => liveM (fun x ρ' => bnd (asgT t x ρ') fun ρ2 => m ρ2) l n' (i + 1) ρ'
        | .ct ρ' => liveM (fun x ρ' => bnd (asgT t x ρ') fun ρ2 => m ρ2) l n' (i + 1) ρ'
        | .bk ρ' => ret (.nx ρ')
        | .rt d => ret (.rt d)) S2) := h3
      cases e : asgO t d ρ2 with
      | none => rw [e] at h3; exact h3.elim
      | some ρ3 =>
        rw [e] at h3
        have h3 : OutS X.K ct P H₀ g₀ H3 g2 W D (bnd (bnd (retE ρ3) fun ρ2 => m ρ2) (fun f => match f with
        | .nx ρ' => liveM (fun x ρ' => bnd (asgT t x ρ') fun ρ2 => m ρ2) l n' (i + 1) ρ'
        | .ct ρ' => liveM (fun x ρ' => bnd (asgT t x ρ') fun ρ2 => m ρ2) l n' (i + 1) ρ'
        | .bk ρ' => ret (.nx ρ')
        | .rt d => ret (.rt d)) S2) := h3
        rw [retE_eq] at h3
        refine ⟨g2, ρ2, S2, d, r2.rel, rx, ρ3, e, fun σ3 _ r4 w4 => ⟨H₀, g₀, g2, ρ3, S2, r2.to r4 w4, hP ρ3, ?_⟩⟩
        refine OutS.flow (k2 := fun _ => bad) h3 fun ρ' S' σ' H' g' l r' hp' q => ⟨g', ρ', S', l2.trans l, r', hp', q⟩
  | _ => exact h1.elim
theorem ds_whl {N0 : Nat} (hps : PassesOwn (model X.prog X.w) X.A X.env X.xe) (hc : DT X ct W a tc) (hb : DSs X ct W P bs m) : DS X ct W P (.While a bs [] pos) (fun ρ => whlM tc m N0 ρ) := by
  refine (ps_while hps hc hb).imp fun D σ H ⟨H₀, g₀, g, ρ, S, r, hp, h⟩ => ?_
  refine ⟨fun n σ' H' => ∃ g' ρ' S', Lat H g H' g' ∧ RelS X.K H₀ g₀ g' σ' H' ρ' S' ∧ P ρ' ∧ OutS X.K ct P H₀ g₀ H' g' W D (whlM tc m n ρ' S'), ⟨N0, g, ρ, S, .refl, r, hp, h⟩, ?_⟩
  rintro n σ2 H2 ⟨g2, ρ2, S2, l2, r2, hp2, h2⟩
  cases n with
  | zero => exact h2.elim
  | succ n =>
    rw [whlM] at h2
    refine ⟨g2, ρ2, S2, r2.rel, (OutS.bi (RA := RB) r2 hp2 h2).mono fun v H3 ⟨g3, d, S3, af, la, rv, r3, h3⟩ => ?_⟩
    have e : v = d := rv
    subst e
    cases v with
    | false => rw [if_neg Bool.false_ne_true] at h3 ⊢; exact h3 σ2 H3 g3 .refl r3 hp2
    | true =>
      rw [if_pos rfl] at h3 ⊢
      refine ⟨fun σ' H' => ∃ g' ρ' S', Lat H g H' g' ∧ RelS X.K H₀ g₀ g' σ' H' ρ' S' ∧ P ρ' ∧ OutS X.K ct P H₀ g₀ H' g' W D (whlM tc m n ρ' S'), fun σ' H' q => ⟨n, by omega, q⟩, H₀, g₀, g3, ρ2, S3, r3, hp2, ?_⟩
      exact OutS.flow (k2 := fun _ => bad) h3 fun ρ' S' σ' H' g' l r' hp' q => ⟨g', ρ', S', (l2.trans la).trans l, r', hp', q⟩
end
end Mini

set_option maxHeartbeats 4000000
/-! MINI: enumerate of a tuple, a list. -/
namespace PySem
open AutoSeq1 (wpAny_loadPart')
theorem enum_newT (t : Addr) (its : Array Value) (n : Nat) (dc : Option Addr) (so : Array (Option Value)) :
    Meets (Builtin.«enumerate.__new__» ⟨[.type "enumerate", .ref t], []⟩) (fun _ R s => s.heap.get? t = some { cls := .type "tuple", dict := dc, data := .seq its n, slots := so } ∧
      R (.ok (.ret (.ref (s.heap.push { cls := .type "tuple_iterator", data := .fields #[.ref t, .int 0 0] }).objs.size)))
        { s with heap := (s.heap.push { cls := .type "tuple_iterator", data := .fields #[.ref t, .int 0 0] }).push { cls := .type "enumerate", data := .fields #[.none, .bool false, .ref s.heap.objs.size, rawInt 0, .none, .none] } }) :=
  .of_wp fun prog w A R s hyp => by
    obtain ⟨hp, g, d, tk, os⟩ := s
    obtain ⟨ht, hyp⟩ := hyp
    have hsub := sub_enumerate
    have hT : Heap.IsTuple (Shared.heap ⟨hp, g, d, tk, os⟩) t its := ⟨_, ht, rfl, n, rfl⟩
    wp_walk using wpAny_loadPart' ht
    refine wpAny_stack_any fun st => wpAny_pure ?_
    split
    · rename_i c _ _ _ _ _
      cases (c == Value.type "enumerate")
      · (wp_walk using wpAny_loadPart' ht, wpAny_pyIter_tuple hT); exact ⟨_, rfl, hyp⟩
      · (wp_walk using wpAny_loadPart' ht, wpAny_pyIter_tuple hT); exact ⟨_, rfl, hyp⟩
    · (wp_walk using wpAny_loadPart' ht, wpAny_pyIter_tuple hT); exact ⟨_, rfl, hyp⟩
theorem call_enumT {prog : Program} {w : World} {A : Around} {E : Value → Shared → Prop} {s : Shared} {t : Addr} {its : Array Value} {Q : Value → Shared → Prop} (hT : s.heap.IsTuple t its)
    (h : ∀ h', IsEnum h' (s.heap.objs.size + 1) s.heap.objs.size 0 .none → h'.IsTupleIter s.heap.objs.size t 0 → (∀ b o, s.heap.get? b = some o → h'.get? b = some o) → Q (.ref (s.heap.objs.size + 1)) { s with heap := h' }) :
    wpAny (model prog w) A (call (.type "enumerate") [.ref t]) Q E s := by
  obtain ⟨⟨c, dc, dt, so⟩, ht, hc, n, hd⟩ := hT
  obtain rfl : c = .type "tuple" := hc
  obtain rfl : dt = .seq its n := hd
  refine callType_new F.called_enumerate (by decide) (F.typeCall_enumerate_1 _) (F.newCall_enumerate_1 _) (fun obj => F.args_object_init_2 obj _) F.entry_enumerate_new (enum_newT t its n dc so) ⟨ht, ?_⟩
  have hz : (s.heap.push { cls := .type "tuple_iterator", data := .fields #[.ref t, .int 0 0] }).objs.size = s.heap.objs.size + 1 := Heap.size_push ..
  show _ ∧ _
  rw [hz]
  have hE := Heap.get?_push_size (s.heap.push { cls := .type "tuple_iterator", data := .fields #[.ref t, .int 0 0] }) (o := { cls := .type "enumerate", data := .fields #[.none, .bool false, .ref s.heap.objs.size, rawInt 0, .none, .none] }) rfl
  rw [hz] at hE
  exact ⟨⟨_, hE, rfl⟩, h _ hE ⟨_, Heap.get?_push_of_some _ (Heap.get?_push_size _ rfl), rfl, rfl⟩ fun b o x => Heap.get?_push_of_some _ (Heap.get?_push_of_some _ x)⟩
end PySem
namespace L2
open PySem PySem.Spec PyProof.Rows
/-- the tuple at a, each item with its number in a new pair -/
def IteT (K : PySem.W.Frag) (a : Addr) : It where
  go := fun i H => ∃ (xs : List V) (x : V), SqT K H a xs ∧ xs[i]? = some x
  yld := fun i H v H' => ∃ T x, v = .ref T ∧ H T = none ∧ H' = upd H T (.tup [.int (i : Nat), x]) ∧ ∀ xs, SqT K H a xs → xs[i]? = some x
  stop := fun i H => ∃ xs : List V, SqT K H a xs ∧ xs.length = i
theorem turn_enumT {P : Program} {w : World} {K : PySem.W.Frag} {elts : List Expr} {kk : Nat} {tpos : Pos} (a e it : Addr) :
    Turn P w K (.Tuple elts kk tpos) (IteT K a) [e, it] e (fun i h => (∃ old, IsEnum h e it ((i : Nat) : Int) old) ∧ h.IsTupleIter it a i ∧ e ≠ it ∧ a ≠ it ∧ a ≠ e) where
  mem := by simp
  obj := fun i h st b hb => by
    obtain ⟨⟨old, he⟩, ⟨o, ho, hc, hd⟩, _⟩ := st
    have two : b = e ∨ b = it := by simpa using hb
    rcases two with rfl | rfl
    · exact ⟨_, he, fun v q => nomatch q⟩
    · exact ⟨o, ho, fun v q => by rw [hd] at q; cases q⟩
  keep := fun i h h' st k => by
    obtain ⟨⟨old, he⟩, hi, hne⟩ := st
    exact ⟨⟨old, k e (by simp) _ he⟩, hi.at fun o q => k it (by simp) o q, hne⟩
  item := by
    intro X hP hw hK hc i pins s σ H E I hf st hg
    subst hP hw hK
    obtain ⟨⟨old, he⟩, hit, hne, hai, hae⟩ := st
    obtain ⟨xs, x, hq, hx⟩ := hg
    obtain ⟨its, rv, p, hz⟩ := I.tuple hq
    obtain ⟨u, hu, ru⟩ := rv.get hx
    have hel : e < s.heap.objs.size := Heap.lt_size he
    have hil : it < s.heap.objs.size := by obtain ⟨_, q, _⟩ := hit; exact Heap.lt_size q
    have Dw := Draws.tuple (prog := X.prog) (w := X.w) (A := X.A.in1) (show X.A.in1.handled = none from I.ok.hd hc) it a hai its.toArray
    have hlt : i < its.toArray.size := by rw [List.size_toArray]; exact (List.getElem?_eq_some_iff.mp hu).1
    refine wpAny_pyNext_enum_itemD Dw he ⟨hit, p⟩ hlt hne (by simp [hne, Ne.symm hae]) fun y h' tk hy ho hst' hT hsz hk => ?_
    have ey : y = u := by
      have : its.toArray[i]? = some u := by simpa using hu
      rw [this] at hy
      exact (Option.some.inj hy).symm
    subst ey
    refine ⟨_, rfl, wpAny_letOwnedTupleGo_enum (s := { s with heap := h', toks := tk + 1 }) ho fun h'' he' sb => ?_⟩
    have hT2 : h''.get? s.heap.objs.size = some { cls := .type "tuple", data := .seq #[.int i tk, y] } := (sb.2 _ (Nat.ne_of_gt hel)).trans hT
    have new : ObjOk X.prog X.w (upd H s.heap.objs.size (.tup [.int (i : Nat), x])) h'' s.heap.objs.size (.tup [.int (i : Nat), x]) :=
      ⟨by show 2 ≤ sizeLine; decide, [.int i tk, y], .cons ⟨_, rfl⟩ (.cons ru .nil), ⟨_, hT2, rfl, _, rfl⟩⟩
    have I1 : Inv X pins σ (upd H s.heap.objs.size (.tup [.int (i : Nat), x])) { s with heap := h'', toks := tk + 1 } :=
      I.turnedNew (ch := [e, it]) (fun b ob hb q => (sb.2 b (fun z => hb (by simp [z]))).trans (hk b ob (fun z => hb (by simp [z])) (fun z => hb (by simp [z])) q)) hf (Nat.le_refl _) new
    refine ⟨.ref s.heap.objs.size, _, I1, rfl, ⟨_, x, rfl, I.hok.fresh (Nat.le_refl _), rfl, fun ys hy => by rw [I.tuple_inj hy hq]; exact hx⟩, ⟨⟨y, ?_⟩, hst'.1.at fun o q => (sb.2 it (Ne.symm hne)).trans q, hne, hai, hae⟩, fun b hb => ?_⟩
    · rw [show ((i + 1 : Nat) : Int) = (i : Int) + 1 from by omega]
      exact he'
    · have hb' : b < s.heap.objs.size := by
        have two : b = e ∨ b = it := by simpa using hb
        rcases two with rfl | rfl
        · exact hel
        · exact hil
      rw [upd_ne (Nat.ne_of_lt hb')]
      exact (hf b hb).1
  done := by
    intro X hP hw hK hc i pins s σ H E I hf st hg
    subst hP hw hK
    obtain ⟨⟨old, he⟩, hit, hne, hai, hae⟩ := st
    obtain ⟨xs, hq, hx⟩ := hg
    obtain ⟨its, rv, p, hz⟩ := I.tuple hq
    obtain ⟨f0, f1, f2, f3, f4, f5⟩ := hf it (by simp)
    have hl := rv.length
    have Dw := Draws.tuple (prog := X.prog) (w := X.w) (A := X.A.in1) (show X.A.in1.handled = none from I.ok.hd hc) it a hai its.toArray
    have hn : its.toArray.size = i := by rw [List.size_toArray, ← hl]; exact hx
    exact wpAny_pyNext_enum_endD Dw he ⟨by rw [hn]; exact hit, p⟩ fun h' eb => ⟨rfl, I.turned (t' := s.toks) (fun b o hb q => eb b o hb q) f0 f1 f3 f4 f5⟩
  self := fun A i s Q E st h => let ⟨⟨_, he⟩, _⟩ := st; wpAny_pyIter_enum he h
end L2

namespace L2
open PySem PySem.Spec PyProof.Rows
def iEnumA (K : PySem.W.Frag) (ta : TA) : TI := fun σ H R => ta σ H fun vs H1 => ∃ a, vs = [.ref a] ∧ ((∃ xs, SqL K H1 a xs ∧ R (Ite K a) H1) ∨ ∃ xs, SqT K H1 a xs ∧ R (IteT K a) H1)
theorem pi_enumA {X : Cx} {e : Expr} {ta : TA} {p pos tpos : Pos} {elts : List Expr} {kk : Nat} (hg : Gl X "enumerate") (hm : X.mg "enumerate" = none) (ha : PA X [e] ta) (hs : starEach [e] X.env = [(false, eval e X.env)]) :
    PI X (.Tuple elts kk tpos) (.Call (.Name "enumerate" p) [e] [] pos) (iEnumA X.K ta) := by
  refine ⟨fun pins s σ H R I hyp => ?_⟩
  refine Call_ (ld_blt I hg hm boot_enumerate (PyProof.Rows.callWith_type1 (thn (ha.run pos pins s σ H _ I hyp) fun us s1 ⟨vs, H1, I1, r1, a, ev, q⟩ => ?_) hs rfl))
  subst ev
  cases r1 with
  | cons r rr =>
    cases rr
    cases r
    have fresh : ∀ b ∈ [s1.heap.objs.size + 1, s1.heap.objs.size], FpOk X pins H1 b := fun b hb => by
      have two : b = s1.heap.objs.size + 1 ∨ b = s1.heap.objs.size := by simpa using hb
      have hle : s1.heap.objs.size ≤ b := by rcases two with z | z <;> omega
      exact I1.fpOk hle (I1.hok.fresh hle)
    rcases q with ⟨xs, hq, q⟩ | ⟨xs, hq, q⟩
    · obtain ⟨its, rv, pl, hz⟩ := I1.list hq
      refine call_enumerate_list pl.isList fun h' he hit hsz hk => wpAny_pyIter_enum he ?_
      have I2 : Inv X pins σ H1 { s1 with heap := h' } := I1.kept (t' := s1.toks) hk
      exact ⟨_, _, _, _, H1, rfl, I2, turn_enum a (s1.heap.objs.size + 1) s1.heap.objs.size, ⟨⟨.none, he⟩, hit, Nat.succ_ne_self _⟩, fresh, q⟩
    · obtain ⟨its, rv, pt, hz⟩ := I1.tuple hq
      have hal : a < s1.heap.objs.size := by obtain ⟨o, e1, _⟩ := pt; exact Heap.lt_size e1
      refine call_enumT (show s1.heap.IsTuple a its.toArray from pt) fun h' he hit hk => wpAny_pyIter_enum he ?_
      have I2 : Inv X pins σ H1 { s1 with heap := h' } := I1.kept (t' := s1.toks) hk
      exact ⟨_, _, _, _, H1, rfl, I2, turn_enumT a (s1.heap.objs.size + 1) s1.heap.objs.size, ⟨⟨.none, he⟩, hit, Nat.succ_ne_self _, Nat.ne_of_lt hal, Nat.ne_of_lt (Nat.lt_succ_of_lt hal)⟩, fresh, q⟩
end L2
namespace Mini
open PySem PySem.Spec PyProof.Rows L2
section
variable {K : Frag} {H : Hp} {g : Gh}
def enumL (ds : List D) : List D := ((List.range ds.length).zip ds).map fun p => D.tup [.int (p.1 : Nat), p.2]
theorem enumL_get {ds : List D} {i : Nat} {d : D} (h : (enumL ds)[i]? = some d) : ∃ x, ds[i]? = some x ∧ d = .tup [.int (i : Nat), x] := by
  unfold enumL at h
  rw [List.getElem?_map] at h
  obtain ⟨p, h1, rfl⟩ := Option.map_eq_some_iff.mp h
  rw [List.getElem?_zip_eq_some] at h1
  obtain ⟨h2, h3⟩ := h1
  have e := List.getElem?_eq_some_iff.mp h2
  have e2 : p.1 = i := by have := e.2; simpa using this.symm
  exact ⟨p.2, h3, by rw [e2]⟩
theorem enumL_len (ds : List D) : (enumL ds).length = ds.length := by unfold enumL; simp
theorem yields_enum {J : It} {xs : List V} {ds : List D} (r : Reps K H g xs ds) (hgo : ∀ H' g', Lat H g H' g' → ∀ (i : Nat) (v : V), xs[i]? = some v → J.go i H' ∧ ∀ x H'', J.yld i H' x H'' → ∃ T, x = .ref T ∧ H' T = none ∧ H'' = upd H' T (.tup [.int (i : Nat), v]))
    (hst : ∀ H' g', Lat H g H' g' → J.stop xs.length H') : Yields K J H g (enumL ds) := fun H' g' l ok i =>
  ⟨fun d hd => by
    obtain ⟨x, hx, rfl⟩ := enumL_get hd
    obtain ⟨v, h1, h2⟩ := (r.lat l).get hx
    obtain ⟨go, yl⟩ := hgo H' g' l i v h1
    refine ⟨go, fun y H'' hy => ?_⟩
    obtain ⟨T, rfl, hT, rfl⟩ := yl y H'' hy
    refine ⟨.inr ⟨T, _, hT, rfl⟩, ?_⟩
    rw [Rep]
    exact ⟨T, _, rfl, .of upd_same, reps_cons rep_int (reps_cons (h2.lat (lat_laid ok hT)) reps_nil)⟩, fun hl => by
    rw [enumL_len, ← r.length] at hl
    rw [← hl]
    exact hst H' g' l⟩
end
section
variable {X : L2.Cx} {ct : CT} {W : WX} {a : Expr} {ma : Env → M D} {p pos tpos : Pos} {elts : List Expr} {kk : Nat}
theorem di_enum (hg : Gl X "enumerate") (hm : X.mg "enumerate" = none) (ha : DE X ct W a ma) (hn : noStar [a] = true) : DI X ct W (.Tuple elts kk tpos) (.Call (.Name "enumerate" p) [a] [] pos) (fun ρ => bnd (ma ρ) fun x => bnd (lift (match x with
    | .str _ => none
    | .dct _ _ => none
    | d => frzOf d)) fun xs => ret (enumL xs)) := by
  refine (pi_enumA (ta := tCons (TEv X.K ct W ma) tNil) hg hm (pa_cons ha pa_nil (star_cons hn)) (star_cons hn)).imp fun σ H R ⟨g, ρ, S, r, h⟩ => ⟨g, ρ, S, r, (Out.bi (RA := RD X.K) h).mono fun v H1 ⟨g1, d, S1, af, rv, h1⟩ => ?_⟩
  obtain ⟨ds, hd, h2⟩ := Out.lf h1
  have hd2 : frzOf d = some ds ∧ (∀ z, d ≠ .str z) ∧ ∀ ks vs, d ≠ .dct ks vs := by
    cases d <;> first | exact ⟨hd, fun z e => (nomatch e), fun y z e => (nomatch e)⟩ | cases hd
  rcases frz_at af.ok rv hd2.1 with ⟨l, xs, rfl, h3, h4⟩ | ⟨l, xs, rfl, h3, h4⟩ | ⟨z, _, _, e⟩ | ⟨_, _, _, _, _, _, _, _, vs, e⟩
  · refine ⟨l, rfl, .inl ⟨xs, h3.now, h2 H1 g1 _ af.here (yields_enum h4 (fun H' g' la i v hv => ⟨⟨xs, v, h3 H' g' la, hv⟩, fun x H'' ⟨T, y, e1, e2, e3, e4⟩ => ?_⟩) fun H' g' la => ⟨xs, h3 H' g' la, Nat.le_refl _⟩)⟩⟩
    have := e4 xs (h3 H' g' la)
    rw [hv] at this; cases this
    exact ⟨T, e1, e2, e3⟩
  · refine ⟨l, rfl, .inr ⟨xs, h3, h2 H1 g1 _ af.here (yields_enum h4 (fun H' g' la i v hv => ⟨⟨xs, v, la.sqT h3, hv⟩, fun x H'' ⟨T, y, e1, e2, e3, e4⟩ => ?_⟩) fun H' g' la => ⟨xs, la.sqT h3, rfl⟩)⟩⟩
    have := e4 xs (la.sqT h3)
    rw [hv] at this; cases this
    exact ⟨T, e1, e2, e3⟩
  · exact absurd e (hd2.2.1 z)
  · exact absurd e (hd2.2.2 _ vs)
end
end Mini

set_option maxHeartbeats 4000000
/-! MINI, part 17: list comprehensions. -/
namespace Mini
open PySem PySem.Spec PyProof.Rows L2
section
variable {K : Frag} {ct : CT} {H H1 H' H4 : Hp} {g g1 g' g4 : Gh} {S S1 S' S4 : Store} {σ : St} {ρ : Env} {α β γ δ : Type}
/-- a list that was made since H, written again -/
theorem After.reput (a : After K H g H4 g4 S4) {Dd : Addr} {xs ys : List V} (hn : H Dd = none) (nm : Dd ∉ g4.μ) (nf : ¬ g4.F Dd) (h1 : H4 Dd = some (.lst xs)) : After K H g (upd H4 Dd (.lst ys)) g4 S4 := by
  have l : Lat H4 g4 (upd H4 Dd (.lst ys)) g4 := lat_own h1 nf
  refine ⟨⟨a.ext.fz, a.ext.mu, fun b o hb n => ?_, a.ext.new⟩, ⟨fun b f => ?_, fun b m => ?_, a.ok.nd⟩, a.cl, fun i c hc => ?_⟩
  · rw [upd_ne (fun (e : b = Dd) => by rw [e, hn] at hb; cases hb)]
    exact a.ext.keep b o hb n
  · obtain ⟨⟨u, hu⟩, n⟩ := a.ok.fz b f
    exact ⟨⟨u, by rw [upd_ne (fun (e : b = Dd) => nf (e ▸ f))]; exact hu⟩, n⟩
  · obtain ⟨u, hu, n⟩ := a.ok.mu b m
    exact ⟨u, by rw [upd_ne (fun (e : b = Dd) => nm (e ▸ m))]; exact hu, n⟩
  · obtain ⟨b, hb, hc'⟩ := a.cells i c hc
    exact ⟨b, hb, hc'.lat l (upd_ne fun (e : b = Dd) => nm (e ▸ List.mem_of_getElem? hb))⟩
theorem Rel.wipe (r : Rel K g σ H ρ S) : ∀ vs : List Nat, Rel K g (L2.wipe σ vs) H (Mini.wipe ρ vs) S
  | [] => r
  | v :: vs => (r.wipe vs).set (s := .no) trivial fun e => absurd e (by simp [Slot.isOwn])
theorem wipe_get (σ : St) (vs : List Nat) (i : Nat) : (L2.wipe σ vs)[i]? = if i ∈ vs then (if i < σ.length then some none else none) else σ[i]? := by
  induction vs with
  | nil => simp [L2.wipe]
  | cons v vs ih =>
    rw [L2.wipe, List.getElem?_set]
    by_cases e : v = i
    · subst e; simp [wipe_length]
    · rw [if_neg e, ih]
      simp [Ne.symm e]
theorem wipe_same {σ σ' : St} {vs us : List Nat} (s : SameBut us σ σ') (h : ∀ i ∈ us, i ∈ vs) : L2.wipe σ' vs = L2.wipe σ vs := by
  apply List.ext_getElem?
  intro i
  rw [wipe_get, wipe_get, s.1]
  by_cases hi : i ∈ vs
  · rw [if_pos hi, if_pos hi]
  · rw [if_neg hi, if_neg hi]
    exact s.2 i fun m => hi (h i m)
theorem wipe_idem {σ : St} (vs : List Nat) : L2.wipe (L2.wipe σ vs) vs = L2.wipe σ vs := by
  apply List.ext_getElem?
  intro i
  rw [wipe_get, wipe_get, wipe_length]
  by_cases hi : i ∈ vs
  · rw [if_pos hi, if_pos hi]
  · rw [if_neg hi, if_neg hi]
/-- within a comprehension: no error -/
theorem Out.last3 {W W2 : Value → Option Addr → Hp → Prop} {RA : Hp → Gh → β → α → Prop} {RC : Hp → Gh → δ → γ → Prop} {Q : δ → Hp → Prop} {Q1 : β → Hp → Prop} {m : M α} {k : α → M γ}
    (af : After K H g H1 g1 S1) (h : Out K ct H g W RC Q (bnd (noerr m) k S1)) (i : ∀ H2 g2 b a S2, After K H g H2 g2 S2 → After K H1 g1 H2 g2 S2 → RA H2 g2 b a → Out K ct H g W RC Q (k a S2) → Q1 b H2) : Out K ct H1 g1 W2 RA Q1 (m S1) := by
  unfold Mini.bnd noerr at h
  cases e : m S1 with
  | ok a S2 => rw [e] at h; exact fun H2 g2 b af2 ra => i H2 g2 b a S2 (af.trans af2) af2 ra h
  | err c fs S2 => rw [e] at h; exact h.elim
  | bad => rw [e] at h; exact h
theorem noerr_bnd (m : M α) (k : α → M β) : noerr (bnd m k) = bnd (noerr m) fun a => noerr (k a) := by
  funext S
  cases h : m S <;> simp [noerr, bnd, h]
theorem noerr_ret (a : α) : noerr (ret a) = ret a := rfl
theorem bnd_assoc (m : M α) (k : α → M β) (l : β → M γ) : bnd (bnd m k) l = bnd m fun a => bnd (k a) l := by
  funext S
  unfold bnd
  cases m S <;> rfl
theorem bnd_ret (a : α) (k : α → M β) : bnd (ret a) k = k a := rfl
theorem noerr_lift (o : Option α) : noerr (lift o) = lift o := by cases o <;> rfl
theorem noerr_ite {c : Prop} [Decidable c] (m n : M α) : noerr (if c then m else n) = if c then noerr m else noerr n := by split <;> rfl
end
/-- the work of a clause: a target, a test, what is done then -/
def turnM (t : T) (own : List Nat) (mt : Env → M Bool) (me : Env → M (List D)) (ρ : Env) : D → M (List D) := fun x => bnd (asgT t x (wipe ρ own)) fun ρ' => bnd (mt ρ') fun k => if k then me ρ' else ret []
def one (me : Env → M D) : Env → M (List D) := fun ρ => bnd (me ρ) fun d => ret [d]
def fin (xs : List D) : M O := if xs.length ≤ line then ret (.l xs) else bad
def lcM (mi : Env → M (List D)) (t : T) (own : List Nat) (mt : Env → M Bool) (me : Env → M (List D)) : Env → M O := fun ρ =>
  bnd (mi ρ) fun xs => bnd (noerr (flatMapM (turnM t own mt me ρ) xs)) fun ds => fin ds
section
variable {X : L2.Cx} {ct : CT} {W W2 : WX} {a b c tg : Expr} {ma mb me : Env → M D} {mt mt1 : Env → M Bool} {mi mi1 : Env → M (List D)} {pos p q : Pos} {t t1 : T} {vs vs1 : List Nat}
/-- what is still to come: acc stands, the rest is to be added -/
def OutR (K : Frag) (ct : CT) (H : Hp) (g : Gh) (Wx : Value → Option Addr → Hp → Prop) (Q : VK) (acc : List D) (m : M (List D)) (S : Store) : Prop := Out K ct H g Wx (RO K H) Q (bnd (noerr m) (fun ds => fin (acc ++ ds)) S)
theorem OutR.cons {K : Frag} {H : Hp} {g : Gh} {S : Store} {Wx : Value → Option Addr → Hp → Prop} {Q : VK} {acc : List D} {f : D → M (List D)} {x : D} {xs : List D} (h : OutR K ct H g Wx Q acc (flatMapM f (x :: xs)) S) :
    Out K ct H g Wx (RO K H) Q (bnd (noerr (f x)) (fun a => bnd (noerr (flatMapM f xs)) fun b => fin ((acc ++ a) ++ b)) S) := by
  unfold OutR at h
  rw [flatMapM, noerr_bnd, bnd_assoc] at h
  have e : (fun a => bnd (noerr (bnd (flatMapM f xs) fun b => retE (a ++ b))) fun ds => fin (acc ++ ds)) = (fun a => bnd (noerr (flatMapM f xs)) fun b => fin ((acc ++ a) ++ b)) := by
    funext a
    rw [noerr_bnd, bnd_assoc]
    congr 1
    funext b
    rw [retE_eq, noerr_ret, bnd_ret, List.append_assoc]
  rw [e] at h
  exact h
theorem fin_line {K : Frag} {H : Hp} {g : Gh} {S : Store} {Wx : Value → Option Addr → Hp → Prop} {Q : VK} {acc : List D} {m : M (List D)} (h : Out K ct H g Wx (RO K H) Q (bnd (noerr m) (fun ds => fin (acc ++ ds)) S)) : acc.length ≤ line := by
  unfold Mini.bnd noerr at h
  cases e : m S with
  | bad => rw [e] at h; exact h.elim
  | err _ _ _ => rw [e] at h; exact h.elim
  | ok ds S1 =>
    rw [e] at h
    by_cases hl : (acc ++ ds).length ≤ line
    · rw [List.length_append] at hl; omega
    · have h : Out K ct H g Wx (RO K H) Q ((if (acc ++ ds).length ≤ line then ret (.l (acc ++ ds)) else bad) S1) := h
      rw [if_neg hl] at h; exact h.elim
/-- the state of the new list at D within a comprehension that began at H -/
structure Acc (K : Frag) (H : Hp) (g : Gh) (Dd : Addr) (H' : Hp) (g' : Gh) (S' : Store) (acc : List D) : Prop where
  af : After K H g H' g' S'
  at_ : ∃ xs, H' Dd = some (.lst xs) ∧ Reps K H' g' xs acc
  nf : ¬ g'.F Dd
  nm : Dd ∉ g'.μ
theorem Acc.step {K : Frag} {H H' H'' : Hp} {g g' g'' : Gh} {Dd : Addr} {S' S'' : Store} {acc : List D} (a : Acc K H g Dd H' g' S' acc) (b : After K H' g' H'' g'' S'') : Acc K H g Dd H'' g'' S'' acc := by
  obtain ⟨xs, h1, h2⟩ := a.at_
  refine ⟨a.af.trans b, ⟨xs, b.ext.keep Dd _ h1 a.nm, h2.ext b.ext a.af.ok⟩, fun f => ?_, fun m => ?_⟩
  · rcases b.ext.new Dd f with q | q
    · exact a.nf q
    · rw [h1] at q; cases q
  · obtain ⟨l, e, n⟩ := b.ext.mu
    rw [e] at m
    rcases List.mem_append.mp m with q | q
    · exact a.nm q
    · rw [n Dd q] at h1; cases h1
theorem Acc.add {K : Frag} {H H' : Hp} {g g' : Gh} {Dd : Addr} {S' : Store} {acc : List D} (a : Acc K H g Dd H' g' S' acc) (hn : H Dd = none) {v : V} {d : D} {xs : List V} (h1 : H' Dd = some (.lst xs)) (r : Reps K H' g' xs acc) (rv : Rep K H' g' v d) :
    Acc K H g Dd (upd H' Dd (.lst (xs ++ [v]))) g' S' (acc ++ [d]) :=
  ⟨a.af.reput hn a.nm a.nf h1, ⟨xs ++ [v], upd_same, (r.append (reps_cons rv reps_nil)).lat (lat_own h1 a.nf)⟩, a.nf, a.nm⟩
theorem Acc.lat {K : Frag} {H H' H1 : Hp} {g g' g1 : Gh} {Dd : Addr} {S' S1 : Store} {acc acc1 : List D} (a : Acc K H g Dd H1 g1 S1 acc1) (b : After K H1 g1 H' g' S') : Lat H1 g1 H' g' := b.ext.lat a.af.ok
/-- a clause's turn -/
theorem turn_out {K : Frag} {H H' : Hp} {g g' : Gh} {S' : Store} {ρ : Env} {x : D} {Wx : Value → Option Addr → Hp → Prop} {Q : VK} {me : Env → M (List D)} {k : List D → M O} (h : Out K ct H g Wx (RO K H) Q (bnd (noerr (turnM t vs mt me ρ x)) k S')) :
    ∃ ρ', asgO t x (wipe ρ vs) = some ρ' ∧ Out K ct H g Wx (RO K H) Q (bnd (noerr (mt ρ')) (fun b => bnd (noerr (if b then me ρ' else ret [])) k) S') := by
  unfold turnM asgT at h
  rw [noerr_bnd, noerr_bnd, noerr_lift] at h
  cases e : asgO t x (wipe ρ vs) with
  | none => rw [e] at h; exact h.elim
  | some ρ' =>
    refine ⟨ρ', rfl, ?_⟩
    rw [e] at h
    have h : Out K ct H g Wx (RO K H) Q (bnd (bnd (noerr (retE ρ')) fun ρ' => noerr (bnd (mt ρ') fun k => if k then me ρ' else ret [])) k S') := h
    rw [retE_eq, noerr_ret, bnd_ret, noerr_bnd, bnd_assoc] at h
    exact h
theorem lc_imp {σ : St} {H : Hp} {Q : VK} (hv : ∀ i ∈ t.vars, i ∈ vs) (h : TFv X.K ct W (lcM mi t vs mt (one me)) σ H Q) : tLc (TIv X.K ct W mi) (TGv X.K t.vars (asgO t)) (TTv X.K ct W2 mt) (TEv X.K ct W2 me) vs σ H Q := by
  obtain ⟨g, ρ, S, r, h⟩ := h
  refine ⟨g, ρ, S, r, Out.last (RA := RYd X.K) h fun H1 g1 J ds S1 af hy h1 => ?_⟩
  intro Dd hD
  have hD0 : H Dd = none := af.old_none hD
  have ac0 : Acc X.K H g Dd (upd H1 Dd (.lst [])) g1 S1 [] := ⟨af.trans (af.here.laid hD _), ⟨[], upd_same, reps_nil⟩, af.ok.fresh_F hD, af.ok.fresh_mu hD⟩
  have l0 : Lat H1 g1 (upd H1 Dd (.lst [])) g1 := lat_laid af.ok hD
  refine ⟨fun i n H' => n + i = ds.length ∧ ∃ g' S' acc, Acc X.K H g Dd H' g' S' acc ∧ Lat H1 g1 H' g' ∧ OutR X.K ct H g (fun c d H' => W c d σ H') Q acc (flatMapM (turnM t vs mt (one me) ρ) (ds.drop i)) S', ⟨ds.length, by simp, g1, S1, [], ac0, l0, h1⟩, ?_⟩
  rintro i n H2 ⟨hn, g2, S2, acc, ac, l2, h2⟩
  obtain ⟨y1, y2⟩ := hy H2 g2 l2 ac.af.ok i
  by_cases hi2 : i < ds.length
  · right
    obtain ⟨go, yld⟩ := y1 ds[i] (List.getElem?_eq_getElem hi2)
    refine ⟨go, fun H' => i + 1 + (n - 1) = ds.length ∧ 0 < n ∧ ∃ g' S' acc, Acc X.K H g Dd H' g' S' acc ∧ Lat H1 g1 H' g' ∧ OutR X.K ct H g (fun c d H' => W c d σ H') Q acc (flatMapM (turnM t vs mt (one me) ρ) (ds.drop (i + 1))) S', fun H' ⟨e1, e2, q⟩ => ⟨n - 1, by omega, by omega, q⟩, fun x H3 hx => ?_⟩
    obtain ⟨h3, rx⟩ := yld x H3 hx
    have a3 : After X.K H2 g2 H3 g2 S2 := by
      rcases h3 with rfl | ⟨p, xs, hp, rfl⟩
      · exact ac.af.here
      · exact ac.af.here.laid hp _
    have ac3 := ac.step a3
    rw [List.drop_eq_getElem_cons hi2] at h2
    have h4 := OutR.cons h2
    obtain ⟨ρ', e, h5⟩ := turn_out (g' := g2) (H' := H3) h4
    have rw3 : Rel X.K g2 (L2.wipe σ vs) H3 (wipe ρ vs) S2 := ((r.after ac3.af)).wipe vs
    refine ⟨g2, wipe ρ vs, S2, ds[i], rw3, rx, ρ', e, fun σ3 s3 r4 w4 => ⟨by rw [wipe_same s3 hv]; exact wipe_idem vs, g2, ρ', S2, r4, ?_⟩⟩
    refine Out.last3 (RA := RB) ac3.af h5 fun H6 g6 b b' S6 aw6 af6 rb h6 => ?_
    have eb : b = b' := rb
    subst eb
    have ac6 := ac3.step af6
    have l6 : Lat H1 g1 H6 g6 := (l2.trans (a3.ext.lat ac.af.ok)).trans (af6.ext.lat ac3.af.ok)
    cases b with
    | false =>
      rw [if_neg Bool.false_ne_true]
      refine ⟨by omega, by omega, g6, S6, acc, ac6, l6, ?_⟩
      unfold OutR
      rw [if_neg Bool.false_ne_true, noerr_ret, bnd_ret, List.append_nil] at h6
      exact h6
    | true =>
      rw [if_pos rfl]
      rw [if_pos rfl] at h6
      unfold one at h6
      rw [noerr_bnd, bnd_assoc] at h6
      refine ⟨g6, ρ', S6, r4.after af6, Out.last3 (RA := RD X.K) ac6.af h6 fun H7 g7 y d S7 aw7 af7 ry h7 => ?_⟩
      have ac7 := ac6.step af7
      rw [noerr_ret, bnd_ret] at h7
      obtain ⟨xs, h8, h9⟩ := ac7.at_
      have hline := fin_line h7
      rw [List.length_append] at hline
      refine ⟨xs, h8, by rw [h9.length, line_eq]; simp at hline; omega, by omega, by omega, g7, S7, acc ++ [d], ac7.add hD0 h8 h9 ry, (l6.trans (af7.ext.lat ac6.af.ok)).trans (lat_own h8 ac7.nf), ?_⟩
      exact h7
  · left
    refine ⟨y2 (by omega), ?_⟩
    unfold OutR at h2
    rw [List.drop_eq_nil_of_le (by omega), flatMapM, noerr_ret, bnd_ret, List.append_nil] at h2
    have h3 : Out X.K ct H g (fun c d H' => W c d σ H') (RO X.K H) Q ((if acc.length ≤ line then ret (.l acc) else bad) S2) := h2
    obtain ⟨_, h4⟩ := Out.it h3
    obtain ⟨xs, h8, h9⟩ := ac.at_
    exact h4 H2 g2 (.ref Dd) ac.af ⟨Dd, rfl, hD0, ac.nf, ac.nm, xs, h8, h9⟩
theorem Rel.redo {K : Frag} {H H' : Hp} {g g' : Gh} {σ : St} {ρ : Env} {S' : Store} {Dd : Addr} {xs ys : List V} (r : Rel K g' σ H' ρ S') (af : After K H g (upd H' Dd (.lst ys)) g' S') (h1 : H' Dd = some (.lst xs)) (nf : ¬ g'.F Dd) (no : ∀ i a, ownAt σ ρ i a → a ≠ Dd) :
    Rel K g' σ (upd H' Dd (.lst ys)) ρ S' := by
  have l : Lat H' g' (upd H' Dd (.lst ys)) g' := lat_own h1 nf
  refine ⟨af.ok, af.cl, af.cells, r.len, fun j s hj => ?_, r.sep⟩
  obtain ⟨v, hv, so⟩ := r.env j s hj
  refine ⟨v, hv, ?_⟩
  cases s with
  | no => trivial
  | val d => obtain ⟨x, e1, h2⟩ := so; exact ⟨x, e1, h2.lat l⟩
  | exc _ _ => trivial
  | own ds' =>
    obtain ⟨b, zs, rfl, h2, h3, h4, h5⟩ := so
    exact ⟨b, zs, rfl, by rw [upd_ne (no j b (ownAt_iff.mpr ⟨⟨_, hj, rfl⟩, hv⟩))]; exact h2, h3, h4, h5.lat l⟩
  | ownD ks' ds' =>
    obtain ⟨b, o, zs, rfl, h2, mo, h3, h4, dd, h5⟩ := so
    exact ⟨b, o, zs, rfl, by rw [upd_ne (no j b (ownAt_iff.mpr ⟨⟨_, hj, rfl⟩, hv⟩))]; exact h2, mo, h3, h4, dd, h5.lat l⟩
theorem own_there {K : Frag} {H : Hp} {g : Gh} {σ : St} {ρ : Env} {S : Store} (r : Rel K g σ H ρ S) {i : Nat} {a : Addr} (h : ownAt σ ρ i a) : ∃ o, H a = some o := by
  rw [ownAt_iff] at h
  obtain ⟨⟨s, h1, h2⟩, h3⟩ := h
  obtain ⟨v, hv, so⟩ := r.env i s h1
  rw [h3] at hv; cases hv
  cases s with
  | own ds => obtain ⟨b, xs, e, q, _⟩ := so; cases e; exact ⟨_, q⟩
  | ownD ks ds => obtain ⟨b, o, xs, e, q, _⟩ := so; cases e; exact ⟨_, q⟩
  | _ => cases h2
theorem wipeE_get (ρ : Env) (vs : List Nat) (i : Nat) : (Mini.wipe ρ vs)[i]? = if i ∈ vs then (if i < ρ.length then some .no else none) else ρ[i]? := by
  have len : ∀ vs : List Nat, (Mini.wipe ρ vs).length = ρ.length := fun vs => by
    induction vs with
    | nil => rfl
    | cons v vs ih => rw [Mini.wipe, List.length_set, ih]
  induction vs with
  | nil => simp [Mini.wipe]
  | cons v vs ih =>
    rw [Mini.wipe, List.getElem?_set]
    by_cases e : v = i
    · subst e; simp [len]
    · rw [if_neg e, ih]
      simp [Ne.symm e]
theorem own_wipe {σ : St} {ρ : Env} (vs : List Nat) : OwnSub σ ρ (L2.wipe σ vs) (Mini.wipe ρ vs) := fun i a h => by
  rw [ownAt_iff] at h ⊢
  obtain ⟨⟨s, h1, h2⟩, h3⟩ := h
  rw [wipe_get] at h3
  rw [wipeE_get] at h1
  by_cases hi : i ∈ vs
  · rw [if_pos hi] at h1
    split at h1
    · cases h1; cases h2
    · cases h1
  · rw [if_neg hi] at h1 h3
    exact ⟨⟨s, h1, h2⟩, h3⟩
/-- two clauses -/
def nestM (mi1 : Env → M (List D)) (t1 : T) (vs1 : List Nat) (mt1 : Env → M Bool) (me : Env → M (List D)) : Env → M (List D) := fun ρ' => bnd (mi1 ρ') fun ys => flatMapM (turnM t1 vs1 mt1 me ρ') ys
def OutR2 (K : Frag) (ct : CT) (H : Hp) (g : Gh) (Wx : Value → Option Addr → Hp → Prop) (Q : VK) (rest : M (List D)) (acc : List D) (m : M (List D)) (S : Store) : Prop :=
  Out K ct H g Wx (RO K H) Q (bnd (noerr m) (fun a => bnd (noerr rest) fun b => fin ((acc ++ a) ++ b)) S)
theorem OutR2.cons {K : Frag} {H : Hp} {g : Gh} {S : Store} {Wx : Value → Option Addr → Hp → Prop} {Q : VK} {acc : List D} {f : D → M (List D)} {x : D} {xs : List D} {rest : M (List D)} (h : OutR2 K ct H g Wx Q rest acc (flatMapM f (x :: xs)) S) :
    Out K ct H g Wx (RO K H) Q (bnd (noerr (f x)) (fun a => bnd (noerr (flatMapM f xs)) fun a2 => bnd (noerr rest) fun b => fin (((acc ++ a) ++ a2) ++ b)) S) := by
  unfold OutR2 at h
  rw [flatMapM, noerr_bnd, bnd_assoc] at h
  have e : (fun a => bnd (noerr (bnd (flatMapM f xs) fun b => retE (a ++ b))) fun a => bnd (noerr rest) fun b => fin ((acc ++ a) ++ b)) = (fun a => bnd (noerr (flatMapM f xs)) fun a2 => bnd (noerr rest) fun b => fin (((acc ++ a) ++ a2) ++ b)) := by
    funext a
    rw [noerr_bnd, bnd_assoc]
    congr 1
    funext b
    rw [retE_eq, noerr_ret, bnd_ret]
    simp only [List.append_assoc]
  rw [e] at h
  exact h
theorem fin_line2 {K : Frag} {H : Hp} {g : Gh} {S : Store} {Wx : Value → Option Addr → Hp → Prop} {Q : VK} {acc : List D} {m r : M (List D)} (h : Out K ct H g Wx (RO K H) Q (bnd (noerr m) (fun a => bnd (noerr r) fun b => fin ((acc ++ a) ++ b)) S)) : acc.length ≤ line := by
  unfold Mini.bnd noerr at h
  cases e : m S with
  | bad => rw [e] at h; exact h.elim
  | err _ _ _ => rw [e] at h; exact h.elim
  | ok ds S1 =>
    rw [e] at h
    have := fin_line (acc := acc ++ ds) (m := r) (S := S1) h
    rw [List.length_append] at this; omega
theorem lc2_imp {σ : St} {H : Hp} {Q : VK} (hv : ∀ i ∈ t.vars, i ∈ vs) (hv1 : ∀ i ∈ t1.vars, i ∈ vs1) (h : TFv X.K ct W (lcM mi t vs mt (nestM mi1 t1 vs1 mt1 (one me))) σ H Q) :
    tLc2 (TIv X.K ct W mi) (TGv X.K t.vars (asgO t)) (TTv X.K ct W2 mt) (TIv X.K ct W2 mi1) (TGv X.K t1.vars (asgO t1)) (TTv X.K ct W2 mt1) (TEv X.K ct W2 me) vs vs1 σ H Q := by
  obtain ⟨g, ρ, S, r, h⟩ := h
  refine ⟨g, ρ, S, r, Out.last (RA := RYd X.K) h fun H1 g1 J ds S1 af hy h1 => ?_⟩
  intro Dd hD
  have hD0 : H Dd = none := af.old_none hD
  have ac0 : Acc X.K H g Dd (upd H1 Dd (.lst [])) g1 S1 [] := ⟨af.trans (af.here.laid hD _), ⟨[], upd_same, reps_nil⟩, af.ok.fresh_F hD, af.ok.fresh_mu hD⟩
  have l0 : Lat H1 g1 (upd H1 Dd (.lst [])) g1 := lat_laid af.ok hD
  refine ⟨fun i n H' => n + i = ds.length ∧ ∃ g' S' acc, Acc X.K H g Dd H' g' S' acc ∧ Lat H1 g1 H' g' ∧ OutR X.K ct H g (fun c d H' => W c d σ H') Q acc (flatMapM (turnM t vs mt (nestM mi1 t1 vs1 mt1 (one me)) ρ) (ds.drop i)) S', ⟨ds.length, by simp, g1, S1, [], ac0, l0, h1⟩, ?_⟩
  rintro i n H2 ⟨hn, g2, S2, acc, ac, l2, h2⟩
  obtain ⟨y1, y2⟩ := hy H2 g2 l2 ac.af.ok i
  by_cases hi2 : i < ds.length
  · right
    obtain ⟨go, yld⟩ := y1 ds[i] (List.getElem?_eq_getElem hi2)
    refine ⟨go, fun H' => i + 1 + (n - 1) = ds.length ∧ 0 < n ∧ ∃ g' S' acc, Acc X.K H g Dd H' g' S' acc ∧ Lat H1 g1 H' g' ∧ OutR X.K ct H g (fun c d H' => W c d σ H') Q acc (flatMapM (turnM t vs mt (nestM mi1 t1 vs1 mt1 (one me)) ρ) (ds.drop (i + 1))) S', fun H' ⟨e1, e2, q⟩ => ⟨n - 1, by omega, by omega, q⟩, fun x H3 hx => ?_⟩
    obtain ⟨h3, rx⟩ := yld x H3 hx
    have a3 : After X.K H2 g2 H3 g2 S2 := by
      rcases h3 with rfl | ⟨p, xs, hp, rfl⟩
      · exact ac.af.here
      · exact ac.af.here.laid hp _
    have ac3 := ac.step a3
    rw [List.drop_eq_getElem_cons hi2] at h2
    have h4 := OutR.cons h2
    obtain ⟨ρ', e, h5⟩ := turn_out (g' := g2) (H' := H3) h4
    have rw3 : Rel X.K g2 (L2.wipe σ vs) H3 (wipe ρ vs) S2 := ((r.after ac3.af)).wipe vs
    refine ⟨g2, wipe ρ vs, S2, ds[i], rw3, rx, ρ', e, fun σ3 s3 r4 w4 => ⟨by rw [wipe_same s3 hv]; exact wipe_idem vs, g2, ρ', S2, r4, ?_⟩⟩
    refine Out.last3 (RA := RB) ac3.af h5 fun H6 g6 b b' S6 aw6 af6 rb h6 => ?_
    have eb : b = b' := rb
    subst eb
    have ac6 := ac3.step af6
    have l6 : Lat H1 g1 H6 g6 := (l2.trans (a3.ext.lat ac.af.ok)).trans (af6.ext.lat ac3.af.ok)
    have r6 := r4.after af6
    cases b with
    | false =>
      rw [if_neg Bool.false_ne_true]
      refine ⟨by omega, by omega, g6, S6, acc, ac6, l6, ?_⟩
      unfold OutR
      rw [if_neg Bool.false_ne_true, noerr_ret, bnd_ret, List.append_nil] at h6
      exact h6
    | true =>
      rw [if_pos rfl]
      rw [if_pos rfl] at h6
      unfold nestM at h6
      rw [noerr_bnd, bnd_assoc] at h6
      refine ⟨g6, ρ', S6, r6, Out.last3 (RA := RYd X.K) ac6.af h6 fun H7 g7 J1 ys S7 aw7 af7 hy7 h7 => ?_⟩
      have ac7 := ac6.step af7
      have l7 := l6.trans (af7.ext.lat ac6.af.ok)
      refine ⟨fun j k H' => k + j = ys.length ∧ ∃ g' S' acc', Acc X.K H g Dd H' g' S' acc' ∧ Lat H1 g1 H' g' ∧ Lat H7 g7 H' g' ∧ Rel X.K g' σ3 H' ρ' S' ∧
        OutR2 X.K ct H g (fun c d H' => W c d σ H') Q (flatMapM (turnM t vs mt (nestM mi1 t1 vs1 mt1 (one me)) ρ) (ds.drop (i + 1))) acc' (flatMapM (turnM t1 vs1 mt1 (one me) ρ') (ys.drop j)) S', ⟨ys.length, by simp, g7, S7, acc, ac7, l7, .refl, r6.after af7, h7⟩, ?_⟩
      rintro j k H8 ⟨hk, g8, S8, acc8, ac8, l8, l78, r8, h8⟩
      obtain ⟨z1, z2⟩ := hy7 H8 g8 l78 ac8.af.ok j
      by_cases hj : j < ys.length
      · right
        obtain ⟨go1, yld1⟩ := z1 ys[j] (List.getElem?_eq_getElem hj)
        refine ⟨go1, fun H' => j + 1 + (k - 1) = ys.length ∧ 0 < k ∧ ∃ g' S' acc', Acc X.K H g Dd H' g' S' acc' ∧ Lat H1 g1 H' g' ∧ Lat H7 g7 H' g' ∧ Rel X.K g' σ3 H' ρ' S' ∧
          OutR2 X.K ct H g (fun c d H' => W c d σ H') Q (flatMapM (turnM t vs mt (nestM mi1 t1 vs1 mt1 (one me)) ρ) (ds.drop (i + 1))) acc' (flatMapM (turnM t1 vs1 mt1 (one me) ρ') (ys.drop (j + 1))) S', fun H' ⟨e1, e2, q⟩ => ⟨k - 1, by omega, by omega, q⟩, fun x1 H9 hx1 => ?_⟩
        obtain ⟨h9, rx1⟩ := yld1 x1 H9 hx1
        have a9 : After X.K H8 g8 H9 g8 S8 := by
          rcases h9 with rfl | ⟨p, xs, hp, rfl⟩
          · exact ac8.af.here
          · exact ac8.af.here.laid hp _
        have ac9 := ac8.step a9
        have r9 := r8.after a9
        rw [List.drop_eq_getElem_cons hj] at h8
        have h10 := OutR2.cons h8
        obtain ⟨ρ5, e5, h11⟩ := turn_out (g' := g8) (H' := H9) h10
        refine ⟨g8, wipe ρ' vs1, S8, ys[j], r9.wipe vs1, rx1, ρ5, e5, fun σ5 s5 r10 w10 => ⟨by rw [wipe_same s5 hv1]; exact wipe_idem vs1, g8, ρ5, S8, r10, ?_⟩⟩
        refine Out.last3 (RA := RB) ac9.af h11 fun H10 g10 b1 b1' S10 aw10 af10 rb1 h12 => ?_
        have eb : b1 = b1' := rb1
        subst eb
        have ac10 := ac9.step af10
        have l10 : Lat H1 g1 H10 g10 := (l8.trans (a9.ext.lat ac8.af.ok)).trans (af10.ext.lat ac9.af.ok)
        have l710 : Lat H7 g7 H10 g10 := (l78.trans (a9.ext.lat ac8.af.ok)).trans (af10.ext.lat ac9.af.ok)
        have r11 := r9.after af10
        cases b1 with
        | false =>
          rw [if_neg Bool.false_ne_true]
          refine ⟨by omega, by omega, g10, S10, acc8, ac10, l10, l710, r11, ?_⟩
          unfold OutR2
          rw [if_neg Bool.false_ne_true, noerr_ret, bnd_ret, List.append_nil] at h12
          exact h12
        | true =>
          rw [if_pos rfl]
          rw [if_pos rfl] at h12
          unfold one at h12
          rw [noerr_bnd, bnd_assoc] at h12
          refine ⟨g10, ρ5, S10, r10.after af10, Out.last3 (RA := RD X.K) ac10.af h12 fun H11 g11 y d S11 aw11 af11 ry h13 => ?_⟩
          have ac11 := ac10.step af11
          rw [noerr_ret, bnd_ret] at h13
          obtain ⟨xs, h14, h15⟩ := ac11.at_
          have hline := fin_line2 h13
          rw [List.length_append] at hline
          have a11 := ac11.add hD0 h14 h15 ry
          refine ⟨xs, h14, by rw [h15.length, line_eq]; simp at hline; omega, by omega, by omega, g11, S11, acc8 ++ [d], a11, (l10.trans (af11.ext.lat ac10.af.ok)).trans (lat_own h14 ac11.nf), (l710.trans (af11.ext.lat ac10.af.ok)).trans (lat_own h14 ac11.nf), ?_, h13⟩
          exact (r11.after af11).redo a11.af h14 ac11.nf fun i a hi e => by
            obtain ⟨o, ho⟩ := own_there r (own_wipe vs i a (w4 i a hi))
            rw [e, hD0] at ho; cases ho
      · left
        refine ⟨z2 (by omega), by omega, by omega, g8, S8, acc8, ac8, l8, ?_⟩
        unfold OutR2 at h8
        rw [List.drop_eq_nil_of_le (by omega), flatMapM, noerr_ret, bnd_ret, List.append_nil] at h8
        exact h8
  · left
    refine ⟨y2 (by omega), ?_⟩
    unfold OutR at h2
    rw [List.drop_eq_nil_of_le (by omega), flatMapM, noerr_ret, bnd_ret, List.append_nil] at h2
    have h3 : Out X.K ct H g (fun c d H' => W c d σ H') (RO X.K H) Q ((if acc.length ≤ line then ret (.l acc) else bad) S2) := h2
    obtain ⟨_, h4⟩ := Out.it h3
    obtain ⟨xs, h8, h9⟩ := ac.at_
    exact h4 H2 g2 (.ref Dd) ac.af ⟨Dd, rfl, hD0, ac.nf, ac.nm, xs, h8, h9⟩
/-! ### comprehensions as objects -/
section
variable {elt it it1 tg1 : Expr} {ifs ifs1 : List Expr} {scope : Scope} {own : List (Str × Nat)} {P : Env → Prop}
abbrev DTs (X : L2.Cx) (ct : CT) (W : WX) (e : List Expr) (m : Env → M Bool) : Prop := PTs X e (TTv X.K ct W m)
theorem _root_.L2.PTs.imp {X : L2.Cx} {e : List Expr} {t t' : TT} (h : PTs X e t) (i : ∀ σ H Q, t' σ H Q → t σ H Q) : PTs X e t' := ⟨fun pins s σ H Q I q => h.run pins s σ H Q I (i σ H Q q)⟩
theorem dts_nil : DTs X ct W [] (fun _ => ret true) := L2.PTs.imp pts_nil fun σ H Q ⟨g, ρ, S, r, h⟩ => h H g true r.self rfl
theorem dts_one (h : DT X ct W a mt) : DTs X ct W [a] mt := pts_one h
theorem df_lc (hc : X.calm = true) (hN : X.N.Nodup) (hi : DI X ct W tg it mi) (ok : BlkOk X.N X.env.scope scope own) (hv : ∀ i ∈ t.vars, i ∈ own.map (·.2))
    (hg : ∀ (s : Shared) (H : Hp) (C : Addr) (cl : List (Str × Addr)) (fp : List Addr), DG (X.blk s H scope (compEnvC scope cl C X.env) fp) tg t.vars (asgO t))
    (ht : ∀ (s : Shared) (H : Hp) (C : Addr) (cl : List (Str × Addr)) (fp : List Addr), DTs (X.blk s H scope (compEnvC scope cl C X.env) fp) ct W2 ifs mt)
    (he : ∀ (s : Shared) (H : Hp) (C : Addr) (cl : List (Str × Addr)) (fp : List Addr), DE (X.blk s H scope (compEnvC scope cl C X.env) fp) ct W2 elt me) (hs : ∀ x, foldedSetIterable it X.env x = pure x) :
    DF X ct W (.ListComp elt [⟨tg, it, ifs, 0⟩] scope pos) (lcM mi t (own.map (·.2)) mt (one me)) :=
  (pe_lc hc hN hi ok hg ht he hs).imp fun σ H Q h => lc_imp (W2 := W2) hv h
theorem df_lc2 (hc : X.calm = true) (hN : X.N.Nodup) (hi : DI X ct W tg it mi) (ok : BlkOk X.N X.env.scope scope own) (hvs : ∀ i ∈ vs1, i ∈ own.map (·.2)) (hv : ∀ i ∈ t.vars, i ∈ own.map (·.2)) (hv1 : ∀ i ∈ t1.vars, i ∈ vs1)
    (hg : ∀ (s : Shared) (H : Hp) (C : Addr) (cl : List (Str × Addr)) (fp : List Addr), DG (X.blk s H scope (compEnvC scope cl C X.env) fp) tg t.vars (asgO t))
    (ht : ∀ (s : Shared) (H : Hp) (C : Addr) (cl : List (Str × Addr)) (fp : List Addr), DTs (X.blk s H scope (compEnvC scope cl C X.env) fp) ct W2 ifs mt)
    (hi1 : ∀ (s : Shared) (H : Hp) (C : Addr) (cl : List (Str × Addr)) (fp : List Addr), DI (X.blk s H scope (compEnvC scope cl C X.env) fp) ct W2 tg1 it1 mi1)
    (hg1 : ∀ (s : Shared) (H : Hp) (C : Addr) (cl : List (Str × Addr)) (fp : List Addr), DG (X.blk s H scope (compEnvC scope cl C X.env) fp) tg1 t1.vars (asgO t1))
    (ht1 : ∀ (s : Shared) (H : Hp) (C : Addr) (cl : List (Str × Addr)) (fp : List Addr), DTs (X.blk s H scope (compEnvC scope cl C X.env) fp) ct W2 ifs1 mt1)
    (he : ∀ (s : Shared) (H : Hp) (C : Addr) (cl : List (Str × Addr)) (fp : List Addr), DE (X.blk s H scope (compEnvC scope cl C X.env) fp) ct W2 elt me) (hs : ∀ x, foldedSetIterable it X.env x = pure x) (hs1 : ∀ env x, foldedSetIterable it1 env x = pure x) :
    DF X ct W (.ListComp elt [⟨tg, it, ifs, 0⟩, ⟨tg1, it1, ifs1, 0⟩] scope pos) (lcM mi t (own.map (·.2)) mt (nestM mi1 t1 vs1 mt1 (one me))) :=
  (pe_lc2 hc hN hi ok hvs hg ht hi1 hg1 ht1 he hs hs1).imp fun σ H Q h => lc2_imp (W2 := W2) hv hv1 h
/-! ### name = [..] -/
theorem own_imp {i : Nat} {mo : Env → M O} {D : Ends} {σ : St} {H : Hp} (hP : ∀ ρ, P ρ) (h : TSv X.K ct W P (fun ρ => bnd (mo ρ) fun o => bnd (setAt ρ i (slotOf o)) fun ρ' => ret (.nx ρ')) D σ H) : TFv X.K ct W mo σ H (fun v H1 => gName i v σ H1 D.nx) := by
  obtain ⟨H₀, g₀, g, ρ, S, r, hp, h⟩ := h
  refine ⟨g, ρ, S, r.rel, (OutS.bi (RA := RO X.K H) r hp h).mono fun v H1 ⟨g1, o, S1, af, l, ro, r1, h1⟩ => ?_⟩
  unfold setAt at h1
  by_cases hl : i < ρ.length
  · rw [if_pos hl, retE_eq] at h1
    exact h1 _ H1 g1 .refl (r.give r1 ro i) (hP _)
  · rw [if_neg hl] at h1; exact h1.elim
theorem new_imp {i : Nat} {md : Mode} {mo : Env → M O} {D : Ends} {σ : St} {H : Hp} (hP : ∀ ρ, P ρ) (h : TSv X.K ct W P (fun ρ => bnd (bnd (mo ρ) fun o => place md o) fun d => bnd (asgT (.name i) d ρ) fun ρ' => ret (.nx ρ')) D σ H) : TFv X.K ct W mo σ H (fun v H1 => gName i v σ H1 D.nx) := by
  have h1 := asg_imp hP h
  obtain ⟨g, ρ, S, r, h1⟩ := h1
  refine ⟨g, ρ, S, r, Out.last h1 fun H1 g1 b o S1 af ro h2 => ?_⟩
  obtain ⟨g2, ρ2, S2, d, r2, rv, ρ', e, q⟩ := place_ok h2 H1 g1 b af ro
  rw [asgO] at e
  split at e
  · cases e
    exact q _ (by rw [T.vars]; exact same_put) (r2.set ⟨b, rfl, rv⟩ fun e => absurd e (by simp [Slot.isOwn])) own_put
  · cases e
end
end
end Mini

set_option maxHeartbeats 4000000
/-! MINI, part 18: calls of the program's own defs. -/
namespace L2
open PySem PySem.Spec PyProof.Rows
section
variable {X : Cx} {CX : CXT} {k : Nat} {f : Addr} {fd : FuncData} {ps ks : List Str} {sp : Sp} {E : St → XK} {x : Str} {p pos : Pos} {e : Expr} {es : List Expr} {kws : List Keyword} {t tk : TA}
theorem run_fnB {pins : List (Addr × Obj)} {σ : St} {H : Hp} {s : Shared} {Q : VK} {args : Args} {us : List Value} {vs : List V} (F : FnOk X.prog X.w X.K X.mg X.base CX k f fd ps sp) (hr : Room k X.A) (hb : BindsTo s fd args (ps.zip us)) (hx : PassesAt CX X σ (E σ))
    (I : Inv X pins σ H s) (r : Vals vs us) (h : sp vs H Q (E σ)) : codeAny (model X.prog X.w) X.A (.call (.ref f) args) (fun r s' => match r with
      | .ok (.ret u) => EP X pins σ Q u s'
      | .ok _ => False
      | .error e => X.xe e s') s := by
  refine codeAny_mono (F.run X.A X.stack s H args us vs Q (E σ) hr I.env0 hb r h) fun r s' hq => ?_
  cases r with
  | error e => exact hx pins H s e s' I hq
  | ok fl =>
    cases fl with
    | ret u => exact I.after hq
    | next => exact False.elim hq
    | brk => exact False.elim hq
    | cont => exact False.elim hq
theorem pe_callS0 (F : FnOk X.prog X.w X.K X.mg X.base CX k f fd ps sp) (hr : Room k X.A) (hg : Gl X x) (hm : X.mg x = some (.ref f)) (hk : PySem.W.keepIn X.K (.ref f) = true) (hb : Binds X.K fd ps []) (hx : ∀ σ, PassesAt CX X σ (E σ))
    (hdb : (x == ("__debug__" : Str)) = false) : PE X (.Call (.Name x p) [] [] pos) (tCallS sp E tNil) := by
  refine ⟨fun pins s σ H Q I h => ?_⟩
  refine wpAny_Call_Name_kw (ld_glob I hg hm ?_ hdb)
  exact PySem.W.callWith_K0 I.kIn hk (run_fnS (us := []) F hr hb (hx σ) I .nil h)
/-- f(e, .., k = v, ..): n values by place, the names ks of the others, put as q says -/
def KwB (K : PySem.W.Frag) (fd : FuncData) (ps : List Str) (n : Nat) (ks : List Str) (q : List Nat) : Prop :=
  ∀ (s : Shared) (us ws zs : List Value), K.In s.heap → us.length = n → ws.length = ks.length → Mini.perm (us ++ ws) q = some zs → zs.length = ps.length → BindsTo s fd ⟨us, ks.zip ws⟩ (ps.zip zs)
def tCallKS (sp : Sp) (n : Nat) (ks : List Str) (q : List Nat) (E : St → XK) (t tk : TA) : TE := fun σ H Q => t σ H fun vs H1 => tk σ H1 fun zs H2 => vs.length = n ∧ zs.length = ks.length ∧ ∃ as, Mini.perm (vs ++ zs) q = some as ∧ sp as H2 Q (E σ)
theorem Vals.get2 : ∀ {xs : List V} {us : List Value} {i : Nat} {x : V}, Vals xs us → xs[i]? = some x → ∃ u, us[i]? = some u ∧ RelV x u
  | _, _, _, _, .nil, h => by simp at h
  | _, _, 0, _, .cons r _, h => by simp at h; subst h; exact ⟨_, rfl, r⟩
  | _, _, i + 1, x, .cons _ t, h => by
    obtain ⟨u, h1, h2⟩ := Vals.get2 t (i := i) (by simpa using h)
    exact ⟨u, by simpa using h1, h2⟩
theorem perm_vals {xs : List V} {us : List Value} (r : Vals xs us) : ∀ {q : List Nat} {ys : List V}, Mini.perm xs q = some ys → ∃ ws, Mini.perm us q = some ws ∧ Vals ys ws
  | [], ys, h => by cases h; exact ⟨[], rfl, .nil⟩
  | i :: q, ys, h => by
    unfold Mini.perm at h
    cases e1 : xs[i]? with
    | none => rw [e1] at h; cases h
    | some x =>
      cases e2 : Mini.perm xs q with
      | none => rw [e1, e2] at h; cases h
      | some zs =>
        rw [e1, e2] at h
        cases h
        obtain ⟨u, h1, h2⟩ := r.get2 e1
        obtain ⟨ws, h3, h4⟩ := perm_vals r e2
        exact ⟨u :: ws, by unfold Mini.perm; rw [h1, h3], .cons h2 h4⟩
theorem kw_all {pos : Pos} {env : Env} : ∀ {kws : List Keyword}, kws.all (fun q => q.arg.isSome) = true → (backToKw pos (keywordEach kws env)).all (·.1.isSome) = true ∧ (backToKw pos (keywordEach kws env)).any (·.1.isNone) = false ∧ (backToKw pos (keywordEach kws env)).filterMap (·.1) = kws.filterMap (·.arg)
  | [], _ => ⟨rfl, rfl, rfl⟩
  | ⟨none, e, p⟩ :: r, h => by simp at h
  | ⟨some a, e, p⟩ :: r, h => by
    obtain ⟨h1, h2, h3⟩ := kw_all (pos := pos) (env := env) (kws := r) (by simpa using h)
    refine ⟨?_, ?_, ?_⟩
    · show (true && (backToKw pos (keywordEach r env)).all (·.1.isSome)) = true; rw [h1]; rfl
    · show (false || (backToKw pos (keywordEach r env)).any (·.1.isNone)) = false; rw [h2]; rfl
    · show a :: (backToKw pos (keywordEach r env)).filterMap (·.1) = a :: r.filterMap (·.arg); rw [h3]
theorem pe_callKS {n : Nat} {q : List Nat} (F : FnOk X.prog X.w X.K X.mg X.base CX k f fd ps sp) (hr : Room k X.A) (hg : Gl X x) (hm : X.mg x = some (.ref f)) (hk : PySem.W.keepIn X.K (.ref f) = true)
    (hb : KwB X.K fd ps n ks q) (hx : ∀ σ, PassesAt CX X σ (E σ))
    (ha : PA X (e :: es) t) (hkw : PK X kws tk) (hall : kws.all (fun q => q.arg.isSome) = true) (hks : kws.filterMap (·.arg) = ks)
    (hdb : (x == ("__debug__" : Str)) = false) (he : starEach (e :: es) X.env = (false, eval e X.env) :: starEach es X.env) (hpl : (backTo pos (starEach (e :: es) X.env)).any (·.1) = false) :
    PE X (.Call (.Name x p) (e :: es) kws pos) (tCallKS sp n ks q E t tk) := by
  obtain ⟨a1, a2, a3⟩ := kw_all (pos := pos) (env := X.env) hall
  refine ⟨fun pins s σ H Q I h => ?_⟩
  refine wpAny_Call_Name_kw (ld_glob I hg hm ?_ hdb)
  refine PySem.W.callWith_KW (h₀ := X.base) I.ok.mod.kin hk a1 (thn (ha.run pos pins s σ H _ I h) fun us s1 ⟨vs, H1, I1, r, q⟩ => ?_) (by rw [hpl, a2]; rfl) he
  refine thn (hkw.run pos pins s1 σ H1 _ I1 q) fun ws s2 ⟨zs, H2, I2, rz, n1, n2, as, e1, q2⟩ => ⟨I2.kIn, ?_⟩
  rw [a3, hks]
  obtain ⟨xs, e2, r2⟩ := perm_vals (r.append rz) e1
  have hl : xs.length = ps.length := by rw [← r2.length]; exact F.len _ _ _ _ q2
  exact wpAny_call (run_fnB F hr (hb s2 us ws xs I2.kIn (by rw [← r.length]; exact n1) (by rw [← rz.length]; exact n2) e2 hl) (hx σ) I2 r2 q2)
theorem pe_callKS0 {q : List Nat} (F : FnOk X.prog X.w X.K X.mg X.base CX k f fd ps sp) (hr : Room k X.A) (hg : Gl X x) (hm : X.mg x = some (.ref f)) (hk : PySem.W.keepIn X.K (.ref f) = true)
    (hb : KwB X.K fd ps 0 ks q) (hx : ∀ σ, PassesAt CX X σ (E σ)) (hkw : PK X kws tk) (hall : kws.all (fun q => q.arg.isSome) = true) (hks : kws.filterMap (·.arg) = ks) (hdb : (x == ("__debug__" : Str)) = false) :
    PE X (.Call (.Name x p) [] kws pos) (tCallKS sp 0 ks q E tNil tk) := by
  obtain ⟨a1, a2, a3⟩ := kw_all (pos := pos) (env := X.env) hall
  refine ⟨fun pins s σ H Q I h => ?_⟩
  refine wpAny_Call_Name_kw (ld_glob I hg hm ?_ hdb)
  refine PySem.W.callWith_KW0 (h₀ := X.base) I.ok.mod.kin hk a1 (thn (hkw.run pos pins s σ H _ I h) fun ws s2 ⟨zs, H2, I2, rz, n1, n2, as, e1, q2⟩ => ⟨I2.kIn, ?_⟩) (by rw [a2]; rfl)
  rw [a3, hks]
  obtain ⟨xs, e2, r2⟩ := perm_vals (xs := [] ++ zs) (us := [] ++ ws) rz e1
  have hl : xs.length = ps.length := by rw [← r2.length]; exact F.len _ _ _ _ q2
  exact wpAny_call (run_fnB F hr (hb s2 [] ws xs I2.kIn rfl (by rw [← rz.length]; exact n2) e2 hl) (hx σ) I2 r2 q2)
end
end L2
namespace Mini
open PySem PySem.Spec PyProof.Rows L2
/-- what a def of the program does -/
def spF (K : Frag) (ct : CT) (P : Prog) (n k i : Nat) : Sp := fun vs H Q E => vs.length = n ∧ ∃ g S ds, After K H g H g S ∧ Reps K H g vs ds ∧ Out K ct H g (fun cl dd H' => E cl dd H') (RD K) Q (run P k i ds S)
section
variable {X : L2.Cx} {ct : CT} {W : WX} {Pg : Prog} {j k i n : Nat} {f : Addr} {fd : FuncData} {ps ks : List Str} {x : Str} {p pos : Pos} {a : Expr} {es : List Expr} {kws : List Keyword} {ms mk : Env → M (List D)} {q : List Nat}
theorem call_imp {σ : St} {H : Hp} {Q : VK} (hl : ∀ H g S vs ds (Q : VK) E, Reps X.K H g vs ds → Out X.K ct H g E (RD X.K) Q (run Pg k i ds S) → vs.length = n) (h : TEv X.K ct W (fun ρ => bnd (ms ρ) fun ds => run Pg k i ds) σ H Q) : tCallS (spF X.K ct Pg n k i) (WE W) (TAv X.K ct W ms) σ H Q := by
  obtain ⟨g, ρ, S, r, h⟩ := h
  refine ⟨g, ρ, S, r, (Out.bi (RA := RDs X.K) h).mono fun vs H1 ⟨g1, ds, S1, af, rv, h1⟩ => ?_⟩
  exact ⟨hl H1 g1 S1 vs ds Q _ rv h1, g1, S1, ds, af.here, rv, h1⟩
/-- a def is called with as many values as it has parameters -/
theorem run_len {K : Frag} {fn : Fn} (hf : Pg.fn i = some fn) (hn : fn.pars = n) : ∀ H g S vs ds (Q : VK) E, Reps K H g vs ds → Out K ct H g E (RD K) Q (run Pg k i ds S) → vs.length = n := by
  intro H g S vs ds Q E r h
  cases k with
  | zero => exact h.elim
  | succ k =>
    rw [run, hf] at h
    dsimp only at h
    by_cases hl : ds.length = fn.pars
    · rw [r.length, hl, hn]
    · rw [if_neg hl] at h; exact h.elim
theorem de_call (F : FnOk X.prog X.w X.K X.mg X.base (L2.CX X.prog X.w) j f fd ps (spF X.K ct Pg n k i)) (tk : Takes X W) (hr : Room j X.A) (hg : Gl X x) (hm : X.mg x = some (.ref f)) (hk : PySem.W.keepIn X.K (.ref f) = true) (hb : Binds X.K fd ps [])
    {fn : Fn} (hf : Pg.fn i = some fn) (hn : fn.pars = n) (ha : DA X ct W (a :: es) ms) (hdb : (x == ("__debug__" : Str)) = false) (he : noStar (a :: es) = true) :
    DE X ct W (.Call (.Name x p) (a :: es) [] pos) (fun ρ => bnd (ms ρ) fun ds => run Pg k i ds) :=
  (pe_callS F hr hg hm hk hb (fun σ => passAt tk σ) ha hdb (star_cons he) (star_any (noStar_tail he))).imp fun σ H Q h => call_imp (run_len hf hn) h
theorem de_call0 (F : FnOk X.prog X.w X.K X.mg X.base (L2.CX X.prog X.w) j f fd ps (spF X.K ct Pg n k i)) (tk : Takes X W) (hr : Room j X.A) (hg : Gl X x) (hm : X.mg x = some (.ref f)) (hk : PySem.W.keepIn X.K (.ref f) = true) (hb : Binds X.K fd ps [])
    {fn : Fn} (hf : Pg.fn i = some fn) (hn : fn.pars = n) (hdb : (x == ("__debug__" : Str)) = false) :
    DE X ct W (.Call (.Name x p) [] [] pos) (fun ρ => bnd (ret []) fun ds => run Pg k i ds) :=
  (pe_callS0 F hr hg hm hk hb (fun σ => passAt tk σ) hdb).imp fun σ H Q ⟨g, ρ, S, r, h⟩ => ⟨run_len hf hn H g S [] [] Q _ reps_nil h, g, S, [], r.self, reps_nil, h⟩
theorem perm_reps {K : Frag} {H : Hp} {g : Gh} {xs : List V} {ds : List D} (r : Reps K H g xs ds) : ∀ {q : List Nat} {es : List D}, perm ds q = some es → ∃ ys, perm xs q = some ys ∧ Reps K H g ys es
  | [], ys, h => by cases h; exact ⟨[], rfl, reps_nil⟩
  | i :: q, ys, h => by
    unfold perm at h
    cases e1 : ds[i]? with
    | none => rw [e1] at h; cases h
    | some x =>
      cases e2 : perm ds q with
      | none => rw [e1, e2] at h; cases h
      | some zs =>
        rw [e1, e2] at h
        cases h
        obtain ⟨u, h1, h2⟩ := r.get e1
        obtain ⟨ws, h3, h4⟩ := perm_reps r e2
        exact ⟨u :: ws, by unfold perm; rw [h1, h3], reps_cons h2 h4⟩
theorem callk_imp {m : Nat} {σ : St} {H : Hp} {Q : VK} (hl : ∀ H g S vs ds (Q : VK) E, Reps X.K H g vs ds → Out X.K ct H g E (RD X.K) Q (run Pg k i ds S) → vs.length = n)
    (h : TEv X.K ct W (fun ρ => bnd (ms ρ) fun ds => bnd (mk ρ) fun zs => if ds.length = m ∧ zs.length = ks.length then bnd (lift (perm (ds ++ zs) q)) fun as => run Pg k i as else bad) σ H Q) :
    tCallKS (spF X.K ct Pg n k i) m ks q (WE W) (TAv X.K ct W ms) (TAv X.K ct W mk) σ H Q := by
  obtain ⟨g, ρ, S, r, h⟩ := h
  refine ⟨g, ρ, S, r, (Out.bi (RA := RDs X.K) h).mono fun vs H1 ⟨g1, ds, S1, af, rv, h1⟩ => ?_⟩
  refine ⟨g1, ρ, S1, r.after af, (Out.bi (RA := RDs X.K) h1).mono fun us H2 ⟨g2, zs, S2, af2, ru, h2⟩ => ?_⟩
  obtain ⟨⟨l1, l2⟩, h3⟩ := Out.it h2
  obtain ⟨as, e, h4⟩ := Out.lf h3
  obtain ⟨ys, e2, ry⟩ := perm_reps ((rv.ext af2.ext af.ok).append ru) e
  exact ⟨by rw [rv.length]; exact l1, by rw [ru.length]; exact l2, ys, e2, hl H2 g2 S2 ys as Q _ ry h4, g2, S2, as, af2.here, ry, h4⟩
theorem de_callk {m : Nat} (F : FnOk X.prog X.w X.K X.mg X.base (L2.CX X.prog X.w) j f fd ps (spF X.K ct Pg n k i)) (tk : Takes X W) (hr : Room j X.A) (hg : Gl X x) (hm : X.mg x = some (.ref f)) (hk : PySem.W.keepIn X.K (.ref f) = true) (hb : KwB X.K fd ps m ks q)
    {fn : Fn} (hf : Pg.fn i = some fn) (hn : fn.pars = n) (ha : DA X ct W (a :: es) ms) (hkw : DK X ct W kws mk) (hall : kws.all (fun q => q.arg.isSome) = true) (hks : kws.filterMap (·.arg) = ks) (hdb : (x == ("__debug__" : Str)) = false) (he : noStar (a :: es) = true) :
    DE X ct W (.Call (.Name x p) (a :: es) kws pos) (fun ρ => bnd (ms ρ) fun ds => bnd (mk ρ) fun zs => if ds.length = m ∧ zs.length = ks.length then bnd (lift (perm (ds ++ zs) q)) fun as => run Pg k i as else bad) :=
  (pe_callKS F hr hg hm hk hb (fun σ => passAt tk σ) ha hkw hall hks hdb (star_cons he) (star_any he)).imp fun σ H Q h => callk_imp (run_len hf hn) h
theorem de_callk0 (F : FnOk X.prog X.w X.K X.mg X.base (L2.CX X.prog X.w) j f fd ps (spF X.K ct Pg n k i)) (tk : Takes X W) (hr : Room j X.A) (hg : Gl X x) (hm : X.mg x = some (.ref f)) (hk : PySem.W.keepIn X.K (.ref f) = true) (hb : KwB X.K fd ps 0 ks q)
    {fn : Fn} (hf : Pg.fn i = some fn) (hn : fn.pars = n) (hkw : DK X ct W kws mk) (hall : kws.all (fun q => q.arg.isSome) = true) (hks : kws.filterMap (·.arg) = ks) (hdb : (x == ("__debug__" : Str)) = false) :
    DE X ct W (.Call (.Name x p) [] kws pos) (fun ρ => bnd (ret []) fun ds => bnd (mk ρ) fun zs => if ds.length = 0 ∧ zs.length = ks.length then bnd (lift (perm (ds ++ zs) q)) fun as => run Pg k i as else bad) :=
  (pe_callKS0 F hr hg hm hk hb (fun σ => passAt tk σ) hkw hall hks hdb).imp fun σ H Q ⟨g, ρ, S, r, h⟩ => by
    have := callk_imp (W := W) (ms := fun _ => ret []) (mk := mk) (m := 0) (q := q) (ks := ks) (run_len (K := X.K) hf hn) (Q := Q) ⟨g, ρ, S, r, h⟩
    obtain ⟨g', ρ', S', r', h'⟩ := this
    exact h' H g' [] r'.self reps_nil
end
end Mini

set_option maxHeartbeats 4000000
/-! MINI, part 19: a def keeps its promise. -/
namespace Mini
open PySem PySem.Spec PyProof.Rows L2
def Gh.cutN (g : Gh) (n : Nat) : Gh := ⟨g.F, g.μ.take n⟩
section
variable {K : Frag} {H H' : Hp} {g g' : Gh} {n : Nat}
mutual
theorem Rep.cut : ∀ {d : D} {v : V}, below n d = true → Rep K H g v d → Rep K H (g.cutN n) v d
  | .non, v, _, h => by rw [Rep] at h ⊢; exact h
  | .bl b, v, _, h => by rw [Rep] at h ⊢; exact h
  | .int i, v, _, h => by rw [Rep] at h ⊢; exact h
  | .str s, v, _, h => by rw [Rep] at h ⊢; exact h
  | .tup ds, v, b, h => by
    rw [Rep] at h ⊢
    obtain ⟨a, xs, e1, h1, h2⟩ := h
    exact ⟨a, xs, e1, h1, Reps.cut (by simpa [below] using b) h2⟩
  | .lst ds, v, b, h => by
    rw [Rep] at h ⊢
    obtain ⟨a, xs, e1, h1, h2⟩ := h
    exact ⟨a, xs, e1, h1, Reps.cut (by simpa [below] using b) h2⟩
  | .scr ds, v, b, h => by
    rw [Rep] at h ⊢
    obtain ⟨a, xs, e1, h1, h2⟩ := h
    exact ⟨a, xs, e1, h1, Reps.cut (by simpa [below] using b) h2⟩
  | .dct ks ds, v, b, h => by
    rw [Rep] at h ⊢
    obtain ⟨a, ob, o, xs, e1, h1, f, h2, h3⟩ := h
    have b2 : belows n ks = true ∧ belows n ds = true := by simpa [below] using b
    exact ⟨a, ob, o, xs, e1, h1, f, h2, Reps.cut b2.2 h3⟩
  | .loc l, v, b, h => by
    rw [Rep] at h ⊢
    obtain ⟨a, e1, h1⟩ := h
    have b2 : l < n := by simpa [below] using b
    exact ⟨a, e1, by show (g.μ.take n)[l]? = some a; rw [List.getElem?_take_of_lt b2]; exact h1⟩
theorem Reps.cut : ∀ {ds : List D} {vs : List V}, belows n ds = true → Reps K H g vs ds → Reps K H (g.cutN n) vs ds
  | [], vs, _, h => by rw [Reps] at h ⊢; exact h
  | d :: ds, vs, b, h => by
    rw [Reps] at h ⊢
    obtain ⟨v, r, e1, h1, h2⟩ := h
    have b2 : below n d = true ∧ belows n ds = true := by simpa [belows] using b
    exact ⟨v, r, e1, Rep.cut b2.1 h1, Reps.cut b2.2 h2⟩
end
theorem After.cut {S S' : Store} (a : After K H g H' g' S') (hg : g.μ.length = S.length) (hc : (S'.take S.length).all (belowC S.length) = true) : After K H g H' (g'.cutN S.length) (S'.take S.length) := by
  obtain ⟨m, em, nm⟩ := a.ext.mu
  have e1 : g'.μ.take S.length = g.μ := by rw [em, ← hg, List.take_left]
  refine ⟨⟨a.ext.fz, ⟨[], by show g'.μ.take S.length = _; rw [e1]; simp, by simp⟩, a.ext.keep, a.ext.new⟩, ⟨fun x f => ⟨(a.ok.fz x f).1, fun q => (a.ok.fz x f).2 (List.mem_of_mem_take q)⟩, fun x q => a.ok.mu x (List.mem_of_mem_take q), a.ok.nd.sublist (List.take_sublist _ _)⟩, ?_, fun l c h => ?_⟩
  · show (S'.take S.length).length = (g'.μ.take S.length).length
    rw [List.length_take, List.length_take, a.cl]
  · have hl : l < S.length := by
      have := (List.getElem?_eq_some_iff.mp h).1
      rw [List.length_take] at this; omega
    have hb : belowC S.length c = true := (List.all_eq_true.mp hc) c (List.mem_of_getElem? h)
    rw [List.getElem?_take_of_lt hl] at h
    obtain ⟨x, h1, h2⟩ := a.cells l c h
    refine ⟨x, by show (g'.μ.take S.length)[l]? = some x; rw [List.getElem?_take_of_lt hl]; exact h1, ?_⟩
    cases c with
    | lst ds => obtain ⟨xs, q1, q2⟩ := h2; exact ⟨xs, q1, q2.cut hb⟩
    | dct ks ds =>
      obtain ⟨o, xs, q1, q2, q3, q4⟩ := h2
      have b2 : belows S.length ks = true ∧ belows S.length ds = true := by simpa [belowC] using hb
      exact ⟨o, xs, q1, q2, q3, q4.cut b2.2⟩
/-! ### a value without locs -/
mutual
theorem Rep.low {g2 : Gh} (hF : ∀ a, g.F a → g2.F a) : ∀ {d : D} {v : V}, below 0 d = true → Rep K H g v d → Rep K H g2 v d
  | .non, v, _, h => by rw [Rep] at h ⊢; exact h
  | .bl b, v, _, h => by rw [Rep] at h ⊢; exact h
  | .int i, v, _, h => by rw [Rep] at h ⊢; exact h
  | .str s, v, _, h => by rw [Rep] at h ⊢; exact h
  | .tup ds, v, b, h => by
    rw [Rep] at h ⊢
    obtain ⟨a, xs, e1, h1, h2⟩ := h
    exact ⟨a, xs, e1, h1, Reps.low hF (by simpa [below] using b) h2⟩
  | .lst ds, v, b, h => by
    rw [Rep] at h ⊢
    obtain ⟨a, xs, e1, h1, h2⟩ := h
    exact ⟨a, xs, e1, h1.imp (fun q => ⟨q.1, hF a q.2⟩) id, Reps.low hF (by simpa [below] using b) h2⟩
  | .scr ds, v, b, h => by
    rw [Rep] at h ⊢
    obtain ⟨a, xs, e1, h1, h2⟩ := h
    exact ⟨a, xs, e1, h1.imp (fun q => ⟨q.1, hF a q.2⟩) id, Reps.low hF (by simpa [below] using b) h2⟩
  | .dct ks ds, v, b, h => by
    rw [Rep] at h ⊢
    obtain ⟨a, ob, o, xs, e1, h1, f, h2, h3⟩ := h
    have b2 : belows 0 ks = true ∧ belows 0 ds = true := by simpa [below] using b
    exact ⟨a, ob, o, xs, e1, h1, hF a f, h2, Reps.low hF b2.2 h3⟩
  | .loc l, v, b, h => by simp [below] at b
theorem Reps.low {g2 : Gh} (hF : ∀ a, g.F a → g2.F a) : ∀ {ds : List D} {vs : List V}, belows 0 ds = true → Reps K H g vs ds → Reps K H g2 vs ds
  | [], vs, _, h => by rw [Reps] at h ⊢; exact h
  | d :: ds, vs, b, h => by
    rw [Reps] at h ⊢
    obtain ⟨v, r, e1, h1, h2⟩ := h
    have b2 : below 0 d = true ∧ belows 0 ds = true := by simpa [belows] using b
    exact ⟨v, r, e1, Rep.low hF b2.1 h1, Reps.low hF b2.2 h2⟩
end
section iso
variable {ct : CT} {W' : Value → Option Addr → Hp → Prop} {Q : VK} {S S' : Store}
theorem drop_out {d : D} (hg : g.μ.length = S.length) (h : Out K ct H g W' (RD K) Q (drop S.length d S')) :
    ∀ H' g' v, After K H g H' g' S' → Rep K H' g' v d → Q v H' := by
  intro H' g' v a r
  unfold drop at h
  by_cases hc : (below S.length d && (S'.take S.length).all (belowC S.length)) = true
  · rw [if_pos hc] at h
    rw [Bool.and_eq_true] at hc
    exact h H' _ v (a.cut hg hc.2) (r.cut hc.1)
  · rw [if_neg hc] at h; exact h.elim
/-- all cells but ex become frozen; μ: the cells from now on -/
def Gh.all (g : Gh) (ex : Nat) (μ : List Addr) : Gh := ⟨fun a => g.F a ∨ ∃ l, l ≠ ex ∧ g.μ[l]? = some a, μ⟩
theorem mapO_cons {α β : Type} {f : α → Option β} {x : α} {xs : List α} {zs : List β} (h : mapO f (x :: xs) = some zs) : ∃ y ys, f x = some y ∧ mapO f xs = some ys ∧ zs = y :: ys := by
  rw [mapO] at h
  cases e1 : f x with
  | none => rw [e1] at h; cases h
  | some y =>
    cases e2 : mapO f xs with
    | none => rw [e1, e2] at h; cases h
    | some ys => rw [e1, e2] at h; exact ⟨y, ys, rfl, rfl, (Option.some.inj h).symm⟩
theorem reps_frz {F : D → Option D} {μ : List Addr} {ex : Nat} (ih : ∀ (d d' : D) (v : V), F d = some d' → Rep K H g v d → Rep K H (g.all ex μ) v d') : ∀ (ds : List D) (ds' : List D) (vs : List V), mapO F ds = some ds' → Reps K H g vs ds → Reps K H (g.all ex μ) vs ds'
  | [], ds', vs, h, r => by
    rw [mapO] at h; cases h
    rw [Reps] at r ⊢; exact r
  | d :: ds, zs, vs, h, r => by
    obtain ⟨y, ys, h1, h2, rfl⟩ := mapO_cons h
    rw [Reps] at r
    obtain ⟨v, q, rfl, r1, r2⟩ := r
    exact reps_cons (ih d y v h1 r1) (reps_frz ih ds ys q h2 r2)
theorem rep_frz {μ : List Addr} {ex : Nat} (hc : ∀ (l : Nat) c, S'[l]? = some c → ∃ a, g.μ[l]? = some a ∧ CellOk K H g a c) : ∀ (n : Nat) (d d' : D) (v : V), frzD S' ex n d = some d' → Rep K H g v d → Rep K H (g.all ex μ) v d' := by
  intro n
  induction n with
  | zero => intro d d' v h; cases h
  | succ n ih =>
    intro d d' v h r
    have hF : ∀ a, g.F a → (g.all ex μ).F a := fun a f => .inl f
    cases d with
    | non => cases h; exact Rep.low hF rfl r
    | bl b => cases h; exact Rep.low hF rfl r
    | int i => cases h; exact Rep.low hF rfl r
    | str s => cases h; exact Rep.low hF rfl r
    | tup xs =>
      obtain ⟨ys, h1, rfl⟩ := Option.map_eq_some_iff.mp h
      rw [Rep] at r ⊢
      obtain ⟨a, us, e1, r1, r2⟩ := r
      exact ⟨a, us, e1, r1, reps_frz ih xs ys us h1 r2⟩
    | lst xs =>
      obtain ⟨ys, h1, rfl⟩ := Option.map_eq_some_iff.mp h
      rw [Rep] at r ⊢
      obtain ⟨a, us, e1, r1, r2⟩ := r
      exact ⟨a, us, e1, r1.imp (fun q => ⟨q.1, hF a q.2⟩) id, reps_frz ih xs ys us h1 r2⟩
    | scr xs =>
      change (if belows 0 xs then some (D.scr xs) else none) = some d' at h
      by_cases b : belows 0 xs = true
      · rw [if_pos b] at h; cases h
        exact Rep.low hF (by rw [below]; exact b) r
      · rw [if_neg b] at h; cases h
    | dct ks xs =>
      change (if belows 0 ks then (mapO (frzD S' ex n) xs).map (.dct ks) else none) = some d' at h
      by_cases b : belows 0 ks = true
      · rw [if_pos b] at h
        obtain ⟨ys, h1, rfl⟩ := Option.map_eq_some_iff.mp h
        rw [Rep] at r ⊢
        obtain ⟨a, ob, o, us, e1, r1, f, q, r2⟩ := r
        exact ⟨a, ob, o, us, e1, r1, hF a f, q, reps_frz ih xs ys us h1 r2⟩
      · rw [if_neg b] at h; cases h
    | loc l =>
      change (if l = ex then none else (match S'[l]? with
        | some (.lst xs) => (mapO (frzD S' ex n) xs).map .lst
        | _ => none)) = some d' at h
      by_cases hl : l = ex
      · rw [if_pos hl] at h; cases h
      · rw [if_neg hl] at h
        rw [Rep] at r
        obtain ⟨a, e1, r1⟩ := r
        cases e : S'[l]? with
        | none => rw [e] at h; cases h
        | some c =>
          obtain ⟨a', q1, q2⟩ := hc l c e
          rw [r1] at q1; cases q1
          rw [e] at h
          cases c with
          | lst xs =>
            obtain ⟨ys, h1, rfl⟩ := Option.map_eq_some_iff.mp h
            obtain ⟨us, q3, q4⟩ := q2
            rw [Rep]
            exact ⟨a, us, e1, .inl ⟨.inl q3, .inr ⟨l, hl, r1⟩⟩, reps_frz ih xs ys us h1 q4⟩
          | dct ks xs => cases h
/-- the ghost in which an iso call starts -/
theorem After.iso (a : After K H g H g S) : After K H (g.cutN 0) H (g.cutN 0) [] :=
  ⟨Ext.refl, ⟨fun x f => ⟨(a.ok.fz x f).1, by simp [Gh.cutN]⟩, fun x q => by simp [Gh.cutN] at q, by simp [Gh.cutN]⟩, by simp [Gh.cutN], fun l c h => by simp at h⟩
/-- the end of an iso call -/
theorem After.isoE (a : After K H g H g S) (b : After K H (g.cutN 0) H' g' S') {ex : Nat} : After K H g H' (g'.all ex g.μ) S := by
  have nw : ∀ x, (g'.all ex g.μ).F x → g.F x ∨ H x = none := fun x f => by
    rcases f with f | ⟨l, _, f⟩
    · exact b.ext.new x f
    · obtain ⟨m, em, nm⟩ := b.ext.mu
      have : g'.μ = m := by rw [em]; simp [Gh.cutN]
      rw [this] at f
      exact .inr (nm x (List.mem_of_getElem? f))
  have kp : ∀ x o, H x = some o → H' x = some o := fun x o e => b.ext.keep x o e (by simp [Gh.cutN])
  have ex1 : Ext H g H' (g'.all ex g.μ) := ⟨fun x f => .inl (b.ext.fz x f), ⟨[], by simp [Gh.all], by simp⟩, fun x o e _ => kp x o e, nw⟩
  refine ⟨ex1, ⟨fun x f => ⟨?_, fun m => ?_⟩, fun x m => ?_, a.ok.nd⟩, a.cl, fun l c h => ?_⟩
  · rcases f with f | ⟨l, _, f⟩
    · exact (b.ok.fz x f).1
    · obtain ⟨o, q, _⟩ := b.ok.mu x (List.mem_of_getElem? f); exact ⟨o, q⟩
  · obtain ⟨o, q, _⟩ := a.ok.mu x m
    rcases nw x f with r | r
    · exact (a.ok.fz x r).2 m
    · rw [r] at q; cases q
  · obtain ⟨o, q, mo⟩ := a.ok.mu x m
    exact ⟨o, kp x o q, mo⟩
  · obtain ⟨x, h1, h2⟩ := a.cells l c h
    refine ⟨x, h1, h2.ext ex1 a.ok ?_⟩
    obtain ⟨o, q, _⟩ := a.ok.mu x (List.mem_of_getElem? h1)
    rw [q, kp x o q]
theorem iso_out {m : Mode} {d : D} (a : After K H g H g S) (h : Out K ct H g W' (RD K) Q (isoEnd m d S' S)) :
    ∀ H' g' v, After K H (g.cutN 0) H' g' S' → Rep K H' g' v d → Q v H' := by
  intro H' g' v b r
  have plain : Out K ct H g W' (RD K) Q (match frzD S' S'.length 20 d with
    | some d' => forceD d' fun d' => .ok d' S
    | none => .bad) → Q v H' := fun h => by
    cases e : frzD S' S'.length 20 d with
    | none => rw [e] at h; exact h.elim
    | some d' =>
      rw [e] at h
      change Out K ct H g W' (RD K) Q (forceD d' fun d' => .ok d' S) at h
      rw [forceD_eq] at h
      exact h H' _ v (a.isoE b) (rep_frz b.cells 20 d d' v e r)
  cases m with
  | frz => exact plain (by cases d <;> exact h)
  | cell =>
    cases d with
    | loc l =>
      change Out K ct H g W' (RD K) Q (match S'[l]? with
        | some (.lst xs) => (match mapO (frzD S' l 20) xs with
          | some ys => .ok (.loc S.length) (S ++ [.lst ys])
          | none => .bad)
        | _ => .bad) at h
      cases e : S'[l]? with
      | none => rw [e] at h; exact h.elim
      | some c =>
        rw [e] at h
        cases c with
        | dct ks vs => exact h.elim
        | lst xs =>
          change Out K ct H g W' (RD K) Q (match mapO (frzD S' l 20) xs with
            | some ys => .ok (.loc S.length) (S ++ [.lst ys])
            | none => .bad) at h
          cases e2 : mapO (frzD S' l 20) xs with
          | none => rw [e2] at h; exact h.elim
          | some ys =>
            rw [e2] at h
            obtain ⟨p, q1, us, q2, q3⟩ := b.cells l _ e
            have r : Rep K H' g' v (.loc l) := r
            rw [Rep] at r
            obtain ⟨p', e1, r1⟩ := r
            rw [q1] at r1; cases r1
            have z := a.isoE b (ex := l)
            obtain ⟨m, em, nm⟩ := b.ext.mu
            have em : g'.μ = m := by rw [em]; simp [Gh.cutN]
            have hp : H p = none := nm p (by rw [← em]; exact List.mem_of_getElem? q1)
            have nF : ¬ (g'.all l g.μ).F p := fun f => by
              rcases f with f | ⟨l', n', f⟩
              · exact (b.ok.fz p f).2 (List.mem_of_getElem? q1)
              · refine n' ?_
                obtain ⟨i1, i2⟩ := List.getElem?_eq_some_iff.mp f
                obtain ⟨j1, j2⟩ := List.getElem?_eq_some_iff.mp q1
                exact (List.getElem_inj b.ok.nd).mp (i2.trans j2.symm)
            have nm' : p ∉ g.μ := a.ok.fresh_mu hp
            have rr : Reps K H' (g'.all l g.μ) us ys := reps_frz (rep_frz b.cells 20) xs ys us e2 q3
            have mn : Mon H' (g'.all l g.μ) H' ((g'.all l g.μ).cell p) := ⟨fun _ f => f, ⟨[p], rfl⟩, fun _ _ e _ => e⟩
            refine h H' ((g'.all l g.μ).cell p) v ⟨?_, ?_, ?_, ?_⟩ ?_
            · refine ⟨z.ext.fz, ⟨[p], rfl, fun x hx => ?_⟩, z.ext.keep, z.ext.new⟩
              rw [List.mem_singleton] at hx; rw [hx]; exact hp
            · refine ⟨fun x f => ⟨(z.ok.fz x f).1, fun q => ?_⟩, fun x q => ?_, ?_⟩
              · rcases List.mem_append.mp q with q | q
                · exact (z.ok.fz x f).2 q
                · rw [List.mem_singleton] at q; subst q; exact nF f
              · rcases List.mem_append.mp q with q | q
                · exact z.ok.mu x q
                · rw [List.mem_singleton] at q; subst q; exact ⟨_, q2, trivial⟩
              · show (g.μ ++ [p]).Nodup
                rw [List.nodup_append]
                exact ⟨a.ok.nd, by simp, fun x hx y hy => by rw [List.mem_singleton] at hy; subst hy; intro e; subst e; exact nm' hx⟩
            · show (S ++ [Cell.lst ys]).length = (g.μ ++ [p]).length
              rw [List.length_append, List.length_append, a.cl]; rfl
            · intro i c hi
              rcases Nat.lt_or_ge i S.length with hlt | hge
              · rw [List.getElem?_append_left hlt] at hi
                obtain ⟨x, h1, h2⟩ := z.cells i c hi
                refine ⟨x, ?_, h2.mon mn z.ok rfl⟩
                show (g.μ ++ [p])[i]? = some x
                rw [List.getElem?_append_left (by rw [← a.cl]; exact hlt)]
                exact h1
              · rw [List.getElem?_append_right hge] at hi
                have hi0 : i - S.length = 0 := by
                  have := (List.getElem?_eq_some_iff.mp hi).1
                  simp at this; omega
                rw [hi0] at hi
                cases hi
                refine ⟨p, ?_, us, q2, rr.mon mn z.ok⟩
                show (g.μ ++ [p])[i]? = some p
                rw [List.getElem?_append_right (by rw [← a.cl]; exact hge), ← a.cl, hi0]; rfl
            · show Rep K H' ((g'.all l g.μ).cell p) v (.loc S.length)
              rw [Rep]
              refine ⟨p, e1, ?_⟩
              show (g.μ ++ [p])[S.length]? = some p
              rw [List.getElem?_append_right (by rw [a.cl]; exact Nat.le_refl _), a.cl, Nat.sub_self]; rfl
    | non => exact plain h
    | bl b => exact plain h
    | int i => exact plain h
    | str s => exact plain h
    | tup xs => exact plain h
    | lst xs => exact plain h
    | scr xs => exact plain h
    | dct ks vs => exact plain h
end iso
end
/-- the body of a def, its value -/
def bodyM (cx : Cx) (fn : Fn) (as : List D) : M D := match fn.keep with
  | .all => bnd (exSs cx fn.body (start fn as)) outOf
  | .drop => (fun S => bnd (exSs cx fn.body (start fn as)) (fun fl => bnd (outOf fl) fun d => drop S.length d) S)
  | .iso m => if belows 0 as then isoM m (bnd (exSs cx fn.body (start fn as)) outOf) else bnd (exSs cx fn.body (start fn as)) outOf
theorem run_eq {Pg : Prog} {k i : Nat} {fn : Fn} {as : List D} (hf : Pg.fn i = some fn) (hl : as.length = fn.pars) : run Pg (k + 1) i as = bodyM ⟨run Pg k, Pg.exm, Pg.fld, Pg.fuel⟩ fn as := by
  rw [run, hf]
  show (if as.length = fn.pars then _ else _) = _
  rw [if_pos hl]
  rfl
theorem rel_start {K : Frag} {H : Hp} {g : Gh} {S : Store} {N : List Str} {vs : List V} {ds : List D} {fn : Fn} (a : After K H g H g S) (r : Reps K H g vs ds) (hN : fn.slots = N.length) (hl : ds.length ≤ N.length) : RelS K H g g (L2.start N vs) H (start fn ds) S := by
  have lv := r.length
  have noOwn : ∀ (i : Nat) (s : Slot), (start fn ds)[i]? = some s → s.isOwn = false := fun i s h => by
    unfold start at h
    by_cases hi : i < ds.length
    · rw [List.getElem?_append_left (by simpa using hi), List.getElem?_map] at h
      obtain ⟨d, _, rfl⟩ := Option.map_eq_some_iff.mp h
      rfl
    · rw [List.getElem?_append_right (by simpa using hi)] at h
      have := List.mem_of_getElem? h
      rw [List.mem_replicate] at this
      rw [this.2]; rfl
  refine ⟨a, ⟨a.ok, a.cl, a.cells, ?_, fun i s h => ?_, fun i j b hi _ => ?_⟩, fun i b hb => ?_⟩
  · unfold L2.start start
    simp [lv, hN]
  · unfold start at h
    by_cases hi : i < ds.length
    · rw [List.getElem?_append_left (by simpa using hi), List.getElem?_map] at h
      obtain ⟨d, hd, rfl⟩ := Option.map_eq_some_iff.mp h
      obtain ⟨v, hv, rv⟩ := r.get hd
      refine ⟨some v, ?_, v, rfl, rv⟩
      unfold L2.start
      rw [List.getElem?_append_left (by rw [List.length_map]; exact (List.getElem?_eq_some_iff.mp hv).1), List.getElem?_map, hv]
      rfl
    · rw [List.getElem?_append_right (by simpa using hi)] at h
      have hm := List.mem_of_getElem? h
      rw [List.mem_replicate] at hm
      have hlt := (List.getElem?_eq_some_iff.mp h).1
      rw [List.length_replicate, List.length_map] at hlt
      rw [hm.2]
      refine ⟨none, ?_, trivial⟩
      unfold L2.start
      rw [List.getElem?_append_right (by rw [List.length_map, lv]; omega), List.getElem?_replicate, List.length_map, lv]
      rw [if_pos (by rw [← hN]; exact hlt)]
  · obtain ⟨⟨s, h1, h2⟩, _⟩ := ownAt_iff.mp hi
    rw [noOwn i s h1] at h2; cases h2
  · obtain ⟨⟨s, h1, h2⟩, _⟩ := ownAt_iff.mp hb
    rw [noOwn i s h1] at h2; cases h2
section
variable {P : Program} {w : World} {K : Frag} {mg : Str → Option Value} {base : Heap} {x qual : Str} {params : Arguments} {body : List Stmt} {scope : Scope} {f : Addr} {fd : FuncData} {N ps : List Str} {j k i : Nat} {ct : CT} {Pg : Prog} {fn : Fn}
/-- the ends of a def's body: where nothing is let go -/
theorem body_all {H : Hp} {g : Gh} {S : Store} {Q : VK} {E : XK} {m : M Fl} (h : Out K ct H g (fun cl dd H' => E cl dd H') (RD K) Q (bnd m outOf S)) :
    OutS K ct (fun _ => True) H g H g (fun c d _ H' => E c d H') { nx := fun _ H' => Q .non H', rt := Q } (m S) := by
  unfold Mini.bnd at h
  cases e : m S with
  | ok fl S1 =>
    rw [e] at h
    cases fl with
    | nx ρ' => exact fun σ' H' g' l r hp => h H' g' .non r.af rep_non
    | rt d => exact fun H' g' v a' r => h H' g' v a' r
    | bk ρ' => exact h.elim
    | ct ρ' => exact h.elim
  | err c fs S1 =>
    rw [e] at h
    exact fun ρ' σ' H' g' cl dd hp l r ex => h H' g' cl dd r.af ex
  | bad => rw [e] at h; exact h.elim
theorem body_drop {H : Hp} {g : Gh} {S : Store} {Q : VK} {E : XK} {m : M Fl} (a : After K H g H g S) (h : Out K ct H g (fun cl dd H' => E cl dd H') (RD K) Q (bnd m (fun fl => bnd (outOf fl) fun d => drop S.length d) S)) :
    OutS K ct (fun _ => True) H g H g (fun c d _ H' => E c d H') { nx := fun _ H' => Q .non H', rt := Q } (m S) := by
  unfold Mini.bnd at h
  cases e : m S with
  | ok fl S1 =>
    rw [e] at h
    cases fl with
    | nx ρ' => exact fun σ' H' g' l r hp => drop_out a.cl.symm h H' g' .non r.af rep_non
    | rt d => exact fun H' g' v a' r => drop_out a.cl.symm h H' g' v a' r
    | bk ρ' => exact h.elim
    | ct ρ' => exact h.elim
  | err c fs S1 =>
    rw [e] at h
    exact fun ρ' σ' H' g' cl dd hp l r ex => h H' g' cl dd r.af ex
  | bad => rw [e] at h; exact h.elim
theorem body_iso {H : Hp} {g : Gh} {S : Store} {Q : VK} {E : XK} {md : Mode} {m : M Fl} (a : After K H g H g S) (h : Out K ct H g (fun cl dd H' => E cl dd H') (RD K) Q (isoM md (bnd m outOf) S)) :
    OutS K ct (fun _ => True) H (g.cutN 0) H (g.cutN 0) (fun c d _ H' => E c d H') { nx := fun _ H' => Q .non H', rt := Q } (m []) := by
  unfold isoM Mini.bnd at h
  cases e : m [] with
  | ok fl S1 =>
    rw [e] at h
    cases fl with
    | nx ρ' => exact fun σ' H' g' l r hp => iso_out a h H' g' .non r.af rep_non
    | rt d => exact fun H' g' v a' r => iso_out a h H' g' v a' r
    | bk ρ' => exact h.elim
    | ct ρ' => exact h.elim
  | err c fs S1 =>
    rw [e] at h
    change Out K ct H g (fun cl dd H' => E cl dd H') (RD K) Q (if belows 0 fs then .err c fs S else .bad) at h
    by_cases b : belows 0 fs = true
    · rw [if_pos b] at h
      intro ρ' σ' H' g' cl dd hp l r ex
      refine h H' _ cl dd (a.isoE r.af (ex := 0)) ?_
      obtain ⟨C, ns, h1, h2, h3⟩ := ex
      refine ⟨C, ns, h1, h2, ?_⟩
      rcases h3 with h3 | ⟨n1, d, xs, h4, h5, h6, h7⟩
      · exact .inl h3
      · exact .inr ⟨n1, d, xs, h4, h5, h6, h7.low (fun _ f => Or.inl f) b⟩
    · rw [if_neg b] at h; exact h.elim
  | bad => rw [e] at h; exact h.elim
theorem fn_ok (F : FunD K x qual params body scope [] [] f fd) (Sc : FnScope N ps scope) (hf : Pg.fn i = some fn) (hn : fn.pars = ps.length) (hs : fn.slots = N.length)
    (hbody : ∀ (cdv : Value) (A : Around) (outer : List PySem.Env) (s : Shared) (H : Hp) (E : XK), Room j (A.deeper (envOfC qual scope s.heap.objs.size f cdv)) →
      DSs (cxOf (L2.CX P w) P w K mg base N qual scope f cdv A outer s H E) ct (fun c d _ H' => E c d H') (fun _ => True) body (exSs ⟨run Pg k, Pg.exm, Pg.fld, Pg.fuel⟩ fn.body)) :
    FnOk P w K mg base (L2.CX P w) (j + 1) f fd ps (spF K ct Pg ps.length (k + 1) i) := by
  have hpl : ps.length ≤ N.length := by have := congrArg List.length Sc.pre; rw [List.length_take] at this; omega
  refine F.ok Sc (fun vs H Q E h => h.1) fun cdv A outer s H vs Q E hr h => ⟨_, hbody cdv A outer s H E hr, ?_⟩
  obtain ⟨hlen, g, S, ds, a, r, h⟩ := h
  have hl : ds.length = fn.pars := by rw [← r.length, hlen, hn]
  rw [run_eq hf hl] at h
  unfold bodyM at h
  have hd : ds.length ≤ N.length := by rw [hl, hn]; exact hpl
  cases q : fn.keep with
  | all => rw [q] at h; exact ⟨H, g, g, _, S, rel_start a r hs hd, trivial, body_all h⟩
  | drop => rw [q] at h; exact ⟨H, g, g, _, S, rel_start a r hs hd, trivial, body_drop a h⟩
  | iso m =>
    rw [q] at h
    by_cases b : belows 0 ds = true
    · change Out K ct H g (fun cl dd H' => E cl dd H') (RD K) Q ((if belows 0 ds then isoM m (bnd (exSs ⟨run Pg k, Pg.exm, Pg.fld, Pg.fuel⟩ fn.body (start fn ds)) outOf) else bnd (exSs ⟨run Pg k, Pg.exm, Pg.fld, Pg.fuel⟩ fn.body (start fn ds)) outOf) S) at h
      rw [if_pos b] at h
      exact ⟨H, g.cutN 0, g.cutN 0, _, [], rel_start a.iso (r.cut b) hs hd, trivial, body_iso a h⟩
    · change Out K ct H g (fun cl dd H' => E cl dd H') (RD K) Q ((if belows 0 ds then isoM m (bnd (exSs ⟨run Pg k, Pg.exm, Pg.fld, Pg.fuel⟩ fn.body (start fn ds)) outOf) else bnd (exSs ⟨run Pg k, Pg.exm, Pg.fld, Pg.fuel⟩ fn.body (start fn ds)) outOf) S) at h
      rw [if_neg b] at h
      exact ⟨H, g, g, _, S, rel_start a r hs hd, trivial, body_all h⟩
theorem fn_ok0 (F : FunD K x qual params body scope [] [] f fd) : FnOk P w K mg base (L2.CX P w) j f fd ps (spF K ct Pg ps.length 0 i) :=
  ⟨fun vs H Q E h => h.1, fun A outer s H args us vs Q E hr e0 hb hv h => by
    obtain ⟨_, g, S, ds, a, r, h⟩ := h
    exact h.elim⟩
end
end Mini

set_option maxHeartbeats 4000000
/-! MINI, part 20: errors with one field: made, raised, caught. -/
namespace L2
open PySem PySem.Spec PyProof.Rows
/-- a class of the program over ValueError that has no __init__ of its own: T.__init__ is ValueError's -/
structure BaseC (K : PySem.W.Frag) (mg : Str → Option Value) (x : Str) (T : Addr) : Prop where
  gT : mg x = some (.ref T)
  rd : PySem.W.readsIn K T (.type "type") = true
  fc : PySem.W.findCls K (.ref T) (.type "type") "__init__" = some (.val (.builtin "ValueError.__init__"))
  ga : PySem.W.specialIn K (.ref T) "__getattribute__" = some (some (.builtin "type.__getattribute__"))
section
variable {X : Cx} {e : Expr} {es : List Expr} {ta : TA} {x : Str} {p1 p2 pos : Pos} {T : Addr}
theorem pe_baseinit {pl : Sem Bool} (B : BaseC X.K X.mg x T) (hg : Gl X x) (hd : (x == ("__debug__" : Str)) = false) (ha : PA X (e :: es) ta)
    (hc : eval (.Call (.Attribute (.Name x p1) "__init__" p2) (e :: es) [] pos) X.env = (do
      let ov ← eval (.Name x p1) X.env
      standAt p2.atName
      let (f, first) ← holding [ov] (getMethod ov "__init__" pl)
      callWith pos f first (backTo pos (starEach (e :: es) X.env)) (backToKw pos (keywordEach [] X.env))))
    (he : starEach (e :: es) X.env = (false, eval e X.env) :: starEach es X.env) (hpl : (backTo pos (starEach es X.env)).any (·.1) = false) :
    PE X (.Call (.Attribute (.Name x p1) "__init__" p2) (e :: es) [] pos) (tVeI X.K ta) := by
  refine ⟨fun pins s σ H Q I h => ?_⟩
  refine PySem.W.methodCall_KW (ld_glob I hg B.gT ?_ hd) hc
  refine PySem.W.method_cls I.kIn B.ga (PySem.W.cls_value I.kIn B.rd B.fc (by decide +kernel) ?_)
  show wpAny _ _ (callWith pos (Value.builtin "ValueError.__init__") [] (backTo pos (starEach (e :: es) X.env)) []) _ _ _
  refine PyProof.Rows.callWith_method1 (thn (ha.run pos pins _ σ H _ (I.tok _) h) fun us s1 ⟨vs, H1, I1, r1, a, C, ws, ev, hl, T, ea, q⟩ => ?_) he hpl
  subst ev
  cases r1 with
  | @cons _ u0 _ ur ra rw' =>
    obtain rfl : u0 = Value.ref a := ra
    have hlen : ur.length ≤ sizeLine := by
      rw [← Paired.length rw', sizeLine_eq]
      omega
    exact oinit_ok T I1 ea hlen fun s' J => ⟨.non, H1, J, rfl, q⟩
end
theorem mcall_form {env : Env} {o : Expr} {name : Str} {apos pos : Pos} {args : List Expr} (hb : attributeBase o name env (eval o env) = eval o env) (hform : methodCallForm args.length (backTo pos (starEach args env)) [] = true) (hline : (apos.endLine == pos.line) = true) :
    eval (.Call (.Attribute o name apos) args [] pos) env = (do
      let ov ← eval o env
      standAt apos.atName
      let (f, first) ← holding [ov] (getMethod ov name (do return (← importBound o env).getD true))
      callWith pos f first (backTo pos (starEach args env)) (backToKw pos (keywordEach [] env))) := by
  have hpos : methodCallPos true o env apos pos = pure pos := by
    unfold methodCallPos
    rw [hline]
    rfl
  have e : eval (.Call (.Attribute o name apos) args [] pos) env = (do
      let ov ← attributeBase o name env (eval o env)
      standAt apos.atName
      methodCall o name apos pos env ov (args.length + 0) (backTo pos (starEach args env)) (backToKw pos (keywordEach [] env))) := rfl
  rw [e, hb]
  have m : ∀ ov, methodCall o name apos pos env ov (args.length + 0) (backTo pos (starEach args env)) (backToKw pos (keywordEach [] env)) = (do
      let (f, first) ← holding [ov] (getMethod ov name (do return (← importBound o env).getD true))
      callWith pos f first (backTo pos (starEach args env)) (backToKw pos (keywordEach [] env))) := fun ov => by
    unfold methodCall calleeOf
    have hf : methodCallForm (args.length + 0) (backTo pos (starEach args env)) (backToKw pos (keywordEach [] env)) = true := hform
    rw [hf, hpos]
    rfl
  simp only [m]
/-- __init__(self, f): T.__init__(self, m); self.f = f -/
def initB (x f m : Str) (j : Nat) (p1 p2 p3 p4 p5 p6 p7 p8 p9 p10 : Pos) : List Stmt :=
  [.Expr (.Call (.Attribute (.Name x p1) "__init__" p2) [.Name "self" p3, .Constant (.str m) j p4] [] p5) p6, .Assign [.Attribute (.Name "self" p7) f p8] (.Name f p9) p10]
/-- the new exception at a gets its dict -/
def spInit (K : PySem.W.Frag) (f : Str) : Sp := fun vs H Q _ => ∃ (a C : Addr) (y : V), vs = [.ref a, y] ∧ OexC K C ∧ PySem.W.findIn K (.ref C) f = some none ∧ H a = some (exo a C none) ∧
  ∀ dx, H dx = none → dx ≠ a → Q .non (upd (upd H dx (exd dx [(f, y)])) a (exo a C (some dx)))
/-- the reading of that body -/
theorem init_ok {P : Program} {w : World} {K : PySem.W.Frag} {mg : Str → Option Value} {base : Heap} {k : Nat} {qual : Str} {params : Arguments} {scope : Scope} {fI T : Addr} {fd : FuncData} {x f m : Str} {j : Nat} {p1 p2 p3 p4 p5 p6 p7 p8 p9 p10 : Pos}
    (F : FunD K "__init__" qual params (initB x f m j p1 p2 p3 p4 p5 p6 p7 p8 p9 p10) scope [] [] fI fd) (S : FnScope [("self" : Str), f] [("self" : Str), f] scope) (B : BaseC K mg x T) (hg : scope.names.lookup x = some .globalImplicit)
    (hs : scope.names.lookup ("self" : Str) = some .local) (hf : scope.names.lookup f = some .local) (hx : (x == ("__debug__" : Str)) = false) (hfd : (f == ("__debug__" : Str)) = false) (hfc : (f == ("__classdict__" : Str)) = false) (hl : (p2.endLine == p5.line) = true) :
    FnOk P w K mg base (L2.CX P w) (k + 1) fI fd [("self" : Str), f] (spInit K f) := by
  refine F.ok S (fun vs H Q E h => by obtain ⟨a, C, y, rfl, _⟩ := h; rfl) fun cdv A outer s H vs Q E hr h => ⟨tSeq (tDrop (tVeI K (tCons (tVar 0) (tCons (tC (.str m)) tNil)))) (tOst K f (tVar 0) (tVar 1)), ?_, ?_⟩
  · have v0 : ∀ {X : Cx} {p : Pos}, X.N = [("self" : Str), f] → X.env.scope = scope → PE X (.Name "self" p) (tVar 0) := fun hN hsc => pe_var (by rw [hN]; rfl) (by rw [hsc]; exact .inl hs) (by decide) (by decide)
    have v1 : ∀ {X : Cx} {p : Pos}, X.N = [("self" : Str), f] → X.env.scope = scope → PE X (.Name f p) (tVar 1) := fun hN hsc => pe_var (by rw [hN]; rfl) (by rw [hsc]; exact .inl hf) hfd hfc
    refine pss_cons (ps_expr (pe_baseinit B hg hx (pa_cons (v0 rfl rfl) (pa_cons pe_str pa_nil rfl) rfl) (mcall_form rfl rfl hl) rfl rfl) rfl) (pss_one (ps_ost (v0 rfl rfl) (v1 rfl rfl) rfl))
  · obtain ⟨a, C, y, rfl, T, hno, ha, q⟩ := h
    exact ⟨.ref a, rfl, a, C, [.str m], rfl, by simp, T, ha, y, rfl, .ref a, rfl, a, C, rfl, T, hno, .inl ⟨ha, fun dx h1 h2 => q dx h1 h2⟩⟩
end L2

set_option maxHeartbeats 4000000
/-! MINI, part 21: raise, try. -/
namespace L2
open PySem PySem.Spec PyProof.Rows
/-- clauses, each with a name (its slot) or without -/
inductive HdsA (X : Cx) : List ExceptHandler → List (Value × Option Nat × (Addr → Value → Option Addr → TS)) → Prop
  | nil : HdsA X [] []
  | plain {x : Str} {c : Value} {ts : Addr → Value → Option Addr → TS} {b₀ : Stmt} {suite : List Stmt} {np pos' : Pos} {hds : List ExceptHandler} {l : List (Value × Option Nat × (Addr → Value → Option Addr → TS))} (hc : Names X x c)
      (hsu : ∀ (a : Addr) (oe : Obj) (cls : Value) (d : Option Addr) (pn : List (Addr × Obj)), Zc cls d oe → (∃ vs, oe.data = .fields vs) → PSs (X.suite a ((a, oe) :: pn)) (b₀ :: suite) (ts a cls d)) (r : HdsA X hds l) :
      HdsA X (.ExceptHandler (some (.Name x np)) none (b₀ :: suite) pos' :: hds) ((c, none, ts) :: l)
  | named {x n : Str} {i : Nat} {c : Value} {ts : Addr → Value → Option Addr → TS} {b₀ : Stmt} {suite : List Stmt} {np pos' : Pos} {hds : List ExceptHandler} {l : List (Value × Option Nat × (Addr → Value → Option Addr → TS))} (hc : Names X x c)
      (hi : X.N[i]? = some n) (hln : X.env.kindOf n = some .local)
      (hsu : ∀ (a : Addr) (oe : Obj) (cls : Value) (d : Option Addr) (pn : List (Addr × Obj)), Zc cls d oe → (∃ vs, oe.data = .fields vs) → PSs (X.suite a ((a, oe) :: pn)) (b₀ :: suite) (ts a cls d)) (r : HdsA X hds l) :
      HdsA X (.ExceptHandler (some (.Name x np)) (some n) (b₀ :: suite) pos' :: hds) ((c, some i, ts) :: l)
def wAny (K : PySem.W.Frag) (Wout : WX) (D : Ends) : List (Value × Option Nat × (Addr → Value → Option Addr → TS)) → WX
  | [] => Wout
  | (c, none, ts) :: r => fun cls d σ H => ∃ b, PySem.W.exmOne K cls c = some b ∧ (b = true → ∀ a, H a = none → ts a cls d D σ H) ∧ (b = false → wAny K Wout D r cls d σ H)
  | (c, some i, ts) :: r => fun cls d σ H => ∃ b, PySem.W.exmOne K cls c = some b ∧ (b = true → ∀ a, H a = none → ts a cls d { nx := fun σ' H' => D.nx (σ'.set i none) H', rt := D.rt, bk := fun σ' H' => D.bk (σ'.set i none) H', ct := fun σ' H' => D.ct (σ'.set i none) H' } (σ.set i (some (.ref a))) H) ∧
    (b = false → wAny K Wout D r cls d σ H)
section
variable {X : Cx} {body : List Stmt} {h₀ : ExceptHandler} {hds : List ExceptHandler} {l : List (Value × Option Nat × (Addr → Value → Option Addr → TS))} {pos : Pos} {tb : WX → TS} {Wout : WX}
theorem ps_try_any (hs : X.stack = X.env :: X.outer) (hf : X.env.frame = some X.env.locals) (hN : X.N.Nodup) (tk : Takes X Wout)
    (hb : ∀ (W : WX) (pn : List (Addr × Obj)) (xe : Value → Shared → Prop), Takes (X.tr pn xe) W → PassesOwn (model X.prog X.w) X.A X.env xe → PSs (X.tr pn xe) body (tb W))
    (hh : HdsA X (h₀ :: hds) l) : PS X (.Try body (h₀ :: hds) [] [] pos) (fun D σ H => tb (wAny X.K Wout D l) D σ H) := by
  refine ⟨fun pins s σ H D I h => ?_⟩
  have ok := I.ok
  have hfr : X.A.frames = some (X.env :: X.outer) := by rw [ok.frames, hs]
  refine wpAny_Try_except ?_
  refine wpAny_mono ((hb (wAny X.K Wout D l) (X.pn ++ pins) (fun e s₁ => wpAny (model X.prog X.w) X.A (noteFrame e X.env) (fun _ s₂ => wpAny (model X.prog X.w) X.A (setFlight e none) (fun _ s₃ =>
    wpAny (model X.prog X.w) X.A (handleBy e X.env (h₀ :: hds)) (SP X pins D) X.xe s₃) X.xe s₂) X.xe s₁) (fun u s' xx => ?_) PassesOwn.looking).run [] s σ H D (I.toTry _) h) (fun f s1 hsp => ?_) (fun e s1 he => he)
  · obtain ⟨a, B, sI, pins', σ', H', cls, d, rfl, J', nb, up, sky, na, os, ag, w⟩ := xx
    have J : Inv X pins σ' H' sI := J'.ofTry ok
    have sky' : Sky B (X.env :: X.outer) a (Zc cls d) X.env.locals s'.heap := by rw [← hs]; exact sky
    show wpAny (model X.prog X.w) X.A (noteFrame (.ref a) X.env) _ _ _
    refine Sky.land Zc.steady hfr hf sky' fun h3 fl3 up3 => ?_
    have J3 : Inv X pins σ' H' { s' with heap := h3 } := J.landed nb fl3.1 (up.trans up3) os ag
    obtain ⟨oe3, vs3, he3, hz3, hd3⟩ := fl3.there
    have notFr : ∀ {h : Heap} {o : Obj} {vs : Array Value}, h.FunFrames B (X.env :: X.outer) → h.get? a = some o → o.data = .fields vs → a ∉ frs (X.env :: X.outer) := fun {h o vs} ff e dd hm => by
      obtain ⟨_, o', e', hnf⟩ := ff.mem hm
      rw [e] at e'; cases e'
      exact hnf _ dd
    have nfr := notFr fl3.2.2.1 he3 hd3
    have nL : a ≠ X.env.locals := fun z => nfr (List.mem_filterMap.mpr ⟨X.env, List.mem_cons_self, by rw [hf, z]⟩)
    have nF : a ∉ X.fs := fun hm => by
      obtain ⟨e, he, q⟩ := List.mem_filterMap.mp hm
      exact nfr (List.mem_filterMap.mpr ⟨e, List.mem_cons_of_mem _ he, q⟩)
    have S3 := J3.suite he3 hd3 na nL nF
    have LT : PySem.W.Looks (model X.prog X.w) h3 (typeOf (.ref a)) cls := fun A Q E s k q => wpAny_typeOf_ref (k _ _ he3) (by rw [hz3.1]; exact q)
    have tests : ∀ {x : Str} {c : Value} {np : Pos} {Q : Value → Shared → Prop} {E : Value → Shared → Prop}, Names X x c → Q c { s' with heap := h3 } → wpAny (model X.prog X.w) (X.A.mark (some (.ref a))) (eval (.Name x np) X.env) Q E { s' with heap := h3 } := fun {x c np Q E} hc q => by
      obtain ⟨hg, hdbg, hm | ⟨hm, hv, hnn⟩⟩ := hc
      · exact ld_glob (X := X.suite a ((a, oe3) :: (X.pn ++ pins))) S3 hg hm q hdbg
      · exact ld_blt (X := X.suite a ((a, oe3) :: (X.pn ++ pins))) S3 hg hm hv q hnn hdbg
    have go : ∀ {hds' : List ExceptHandler} {l' : List (Value × Option Nat × (Addr → Value → Option Addr → TS))}, HdsA X hds' l' → wAny X.K Wout D l' cls d σ' H' →
        wpAny (model X.prog X.w) X.A (handleBy (.ref a) X.env hds') (SP X pins D) X.xe { s' with heap := h3 } := by
      intro hds' l' hk
      induction hk with
      | nil =>
        intro w
        refine wpAny_handleBy_nil ?_
        obtain ⟨k1, k2, k3, oe, vs, T, oT, ts', he, hz, hd, h1, hr⟩ := id fl3
        unfold PySem.passOn
        refine wpAny_bind (wpAny_field he hd h1 ?_)
        rw [if_neg (show ¬ ((Value.ref T == Value.none) = true) from by simp)]
        have fin : wpAny (model X.prog X.w) X.A (setFlight (.ref a) X.env.frame) (fun _ s4 => wpAny (model X.prog X.w) X.A (throw (.ref a) : Sem Flow) (SP X pins D) X.xe s4) X.xe { s' with heap := h3 } := by
          rw [hf]
          refine HandSPX.setFlight_upZ fl3 fun h4 hh4 up4 => wpAny_throw (tk _ _ ?_)
          exact ⟨a, B, sI, pins, σ', H', cls, d, rfl, J, nb, (up.trans up3).trans up4, .inr (.inr (by rw [hs]; exact hh4)), na, os, ag, w⟩
        first
          | exact wpAny_bind (wpAny_pure (wpAny_bind fin))
          | exact wpAny_bind fin
      | @plain x c ts b₀ suite np pos' hds2 l2 hc hsu r ih =>
        intro w
        obtain ⟨b, hb1, hyes, hno⟩ := w
        refine wpAny_handleBy_cons (codeAny_handlers_test ?_) (by intro q; cases q)
        have LM := PySem.W.exm_one (M := model X.prog X.w) (J3.kIn) LT hb1
        refine tests hc (LM.here ?_)
        cases b with
        | true =>
          refine codeAny_handlers_suite ?_
          refine HandSPX.lands_againZ fl3 fun h4 fl4 up4 => ?_
          have J4 : Inv X pins σ' H' { s' with heap := h4 } := J.landed nb fl4.1 ((up.trans up3).trans up4) os ag
          obtain ⟨oe4, vs4, he4, hz4, hd4⟩ := fl4.there
          have S4 := J4.suite he4 hd4 na nL nF
          refine wpAny_mono ((hsu a oe4 cls d (X.pn ++ pins) hz4 ⟨_, hd4⟩).run [] _ _ H' _ S4 (hyes rfl a na)) (fun f s6 hsp => ?_) (fun _ _ z => False.elim z)
          cases f with
          | next =>
            obtain ⟨σ6, H6, S6, q6⟩ := hsp
            exact ⟨_, _, S6.unsuite ok, q6⟩
          | brk =>
            obtain ⟨σ6, H6, S6, q6⟩ := hsp
            exact ⟨_, _, S6.unsuite ok, q6⟩
          | cont =>
            obtain ⟨σ6, H6, S6, q6⟩ := hsp
            exact ⟨_, _, S6.unsuite ok, q6⟩
          | ret u =>
            obtain ⟨v6, σ6, H6, S6, r6, q6⟩ := hsp
            exact ⟨_, _, _, S6.unsuite ok, r6, q6⟩
        | false => exact ih (hno rfl)
      | @named x n i c ts b₀ suite np pos' hds2 l2 hc hi hln hsu r ih =>
        intro w
        obtain ⟨b, hb1, hyes, hno⟩ := w
        refine wpAny_handleBy_cons (codeAny_handlers_test ?_) (by intro q; cases q)
        have LM := PySem.W.exm_one (M := model X.prog X.w) (J3.kIn) LT hb1
        refine tests hc (LM.here ?_)
        cases b with
        | true =>
          refine codeAny_handlers_suite_as ?_
          refine HandSPX.lands_againZ fl3 fun h4 fl4 up4 => ?_
          have J4 : Inv X pins σ' H' { s' with heap := h4 } := J.landed nb fl4.1 ((up.trans up3).trans up4) os ag
          obtain ⟨oe4, vs4, he4, hz4, hd4⟩ := fl4.there
          have S4 := J4.suite he4 hd4 na nL nF
          refine store_ok (X := X.suite a ((a, oe4) :: (X.pn ++ pins))) (v := .ref a) S4 hN hi (.inl hln) rfl (fun s5 S5 => ?_) (.inr hln)
          refine wpAny_mono ((hsu a oe4 cls d (X.pn ++ pins) hz4 ⟨_, hd4⟩).run [] s5 _ H' _ S5 (hyes rfl a na)) (fun f s6 hsp => ?_) (fun _ _ z => False.elim z)
          have end_ : ∀ {σ6 : St} {H6 : Hp} {Q : Shared → Prop}, Inv (X.suite a ((a, oe4) :: (X.pn ++ pins))) [] σ6 H6 s6 → (∀ s7, Inv X pins (σ6.set i none) H6 s7 → Q s7) →
              wpAny (model X.prog X.w) X.A (do bindName X.env n .none; unbindBehindTheSuite X.env n pos') (fun _ s7 => Q s7) X.xe s6 := fun {σ6 H6 Q} S6 hq => gone_ok (S6.unsuite ok) hN hi hln hq
          cases f with
          | next =>
            obtain ⟨σ6, H6, S6, q6⟩ := hsp
            exact end_ S6 fun s7 J7 => ⟨_, _, J7, q6⟩
          | brk =>
            obtain ⟨σ6, H6, S6, q6⟩ := hsp
            exact end_ S6 fun s7 J7 => ⟨_, _, J7, q6⟩
          | cont =>
            obtain ⟨σ6, H6, S6, q6⟩ := hsp
            exact end_ S6 fun s7 J7 => ⟨_, _, J7, q6⟩
          | ret u =>
            obtain ⟨v6, σ6, H6, S6, r6, q6⟩ := hsp
            exact end_ S6 fun s7 J7 => ⟨_, _, _, J7, r6, q6⟩
        | false => exact ih (hno rfl)
    exact go hh w
  · cases f with
    | next =>
      obtain ⟨σ', H', J', q⟩ := hsp
      exact wpAny_execs_nil ⟨σ', H', J'.ofTry ok, q⟩
    | brk =>
      obtain ⟨σ', H', J', q⟩ := hsp
      exact ⟨σ', H', J'.ofTry ok, q⟩
    | cont =>
      obtain ⟨σ', H', J', q⟩ := hsp
      exact ⟨σ', H', J'.ofTry ok, q⟩
    | ret u =>
      obtain ⟨v, σ', H', J', r, q⟩ := hsp
      exact ⟨v, σ', H', J'.ofTry ok, r, q⟩
end
end L2
namespace Mini
open PySem PySem.Spec PyProof.Rows L2
/-- an error's class: where it stands, what its __init__ is -/
structure ErrC (X : L2.Cx) (ct : CT) (k : Nat) (x f : Str) (c : Nat) (C : Addr) : Prop where
  gC : X.mg x = some (.ref C)
  ct_ : ct c = some (C, [f])
  T : OexC X.K C
  no : PySem.W.findIn X.K (.ref C) f = some none
  ini : ∃ fI fd, PySem.W.findIn X.K (.ref C) "__init__" = some (some (.ref fI)) ∧ PySem.W.typeIn X.K (.ref fI) = some (.type "function") ∧ Binds X.K fd [("self" : Str), f] [] ∧
    FnOk X.prog X.w X.K X.mg X.base (L2.CX X.prog X.w) k fI fd [("self" : Str), f] (spInit X.K f)
section
variable {X : L2.Cx} {ct : CT} {W : WX} {P : Env → Prop} {a : Expr} {ma : Env → M D} {x f : Str} {c k : Nat} {C : Addr} {p pos pos2 : Pos}
theorem ds_raise (hc : X.calm = true) (tk : Takes X W) (hr : Room (k + 1) X.A) (E : ErrC X ct k x f c C) (hg : Gl X x) (hdb : (x == ("__debug__" : Str)) = false) (ha : DE X ct W a ma) (hn : noStar [a] = true) :
    DS X ct W P (.Raise (some (.Call (.Name x p) [a] [] pos)) none pos2) (fun ρ => bnd (ma ρ) fun d => fun S => .err c [d] S) := by
  obtain ⟨fI, fd, h1, h2, h3, h4⟩ := E.ini
  refine (L2.ps_raise hc tk (pmk_oex (ta := tCons (TEv X.K ct W ma) tNil) E.T h1 h2 h4 hr h3 .nil passL hg E.gC (pa_cons ha pa_nil (star_cons hn)) hdb (star_cons hn) rfl)).imp fun D σ H ⟨H₀, g₀, g, ρ, S, r, hp, h⟩ => ?_
  refine ⟨g, ρ, S, r.rel, (OutS.bi (RA := RD X.K) r hp h).mono fun v H1 ⟨g1, d, S1, af, la, rv, r1, h5⟩ => ?_⟩
  refine ⟨by simp, fun b hb => ⟨b, C, v, rfl, E.T, E.no, upd_same, fun dx h6 h7 => ⟨rfl, dx, [(f, v)], upd_same, ?_, ?_, ?_⟩⟩⟩
  · rw [upd_ne h7, upd_same]
  · rw [upd_ne h7] at h6; exact h6
  · have h8 : H1 dx = none := by rw [upd_ne h7] at h6; exact h6
    have e : upd (del (upd (upd (upd H1 b (exo b C none)) dx (exd dx [(f, v)])) b (exo b C (some dx))) b) dx (.xd [(f, v)]) = upd H1 dx (.xd [(f, v)]) := by
      funext z
      by_cases e1 : z = dx
      · subst e1; rw [upd_same, upd_same]
      · rw [upd_ne e1, upd_ne e1]
        by_cases e2 : z = b
        · subst e2; rw [del_same, hb]
        · rw [del_ne e2, upd_ne e2, upd_ne e1, upd_ne e2]
    rw [e]
    have al := r1.rel.self.laid h8 (.xd [(f, v)])
    exact h5 ρ σ _ g1 (.ref C) (some dx) hp (lat_laid r1.rel.ok h8) (r1.after al) ⟨C, [f], E.ct_, rfl, .inr ⟨by simp, dx, [v], rfl, rfl, upd_same, reps_cons (rv.ext al.ext r1.rel.ok) reps_nil⟩⟩
end
end Mini

set_option maxHeartbeats 4000000
/-! MINI, part 22: try, with clauses that return. -/
namespace Mini
open PySem PySem.Spec PyProof.Rows L2
/-- the clause 'except .. as n: return [w, n.f]' at the slot i -/
def tHdF (K : Frag) (ct : CT) (w f : Str) (i : Nat) : Addr → Value → Option Addr → TS := fun a cls d D σ H =>
  ∃ (C dd : Addr) (fs : List (Str × V)) (v : V), XfC K C ∧ PySem.W.findIn K (.ref C) f = some none ∧ cls = .ref C ∧ d = some dd ∧ H dd = some (.xd fs) ∧ fs.lookup f = some v ∧ σ[i]? = some (some (.ref a)) ∧ ∀ p, H p = none → D.rt (.ref p) (upd H p (.lst [.str w, v]))
/-- a clause that returns a constant, a list of constants -/
inductive HK where
  | one (d : D)
  | lst (ds : List D)
def kV : D → Option V
  | .non => some .non
  | .bl b => some (.bl b)
  | .int i => some (.int i)
  | .str s => some (.str s)
  | _ => none
def kVs : List D → Option (List V)
  | [] => some []
  | d :: ds => match kV d, kVs ds with
    | some v, some vs => some (v :: vs)
    | _, _ => none
theorem kV_rep {K : Frag} {H : Hp} {g : Gh} {d : D} {v : V} (h : kV d = some v) : Rep K H g v d := by
  cases d <;> cases h <;> rw [Rep]
theorem kVs_rep {K : Frag} {H : Hp} {g : Gh} : ∀ {ds : List D} {vs : List V}, kVs ds = some vs → Reps K H g vs ds
  | [], vs, h => by cases h; exact reps_nil
  | d :: ds, vs, h => by
    unfold kVs at h
    cases e1 : kV d with
    | none => rw [e1] at h; cases h
    | some v =>
      cases e2 : kVs ds with
      | none => rw [e1, e2] at h; cases h
      | some us => rw [e1, e2] at h; cases h; exact reps_cons (kV_rep e1) (kVs_rep e2)
/-- the constants of a text -/
def chkK : D → Expr → Bool
  | .non, .Constant .none _ _ => true
  | .bl b, .Constant (.bool c) _ _ => decide (b = c)
  | .int i, .Constant (.int j) _ _ => decide (i = j)
  | .str s, .Constant (.str t) _ _ => decide (s = t)
  | _, _ => false
def chkKs : List D → List Expr → Bool
  | [], [] => true
  | d :: ds, e :: es => chkK d e && chkKs ds es
  | _, _ => false
theorem k_of {d : D} {e : Expr} (h : chkK d e = true) : ∃ v, kV d = some v := by
  cases d <;> first | exact ⟨_, rfl⟩ | (cases e <;> first | (simp [chkK] at h; done) | (rename_i c _ _; cases c <;> simp [chkK] at h))
theorem ks_of : ∀ {ds : List D} {es : List Expr}, chkKs ds es = true → ∃ vs, kVs ds = some vs
  | [], _, _ => ⟨[], rfl⟩
  | _ :: _, [], h => by simp [chkKs] at h
  | d :: ds, e :: es, h => by
    have h2 : chkK d e = true ∧ chkKs ds es = true := by simpa [chkKs] using h
    obtain ⟨v, e1⟩ := k_of h2.1
    obtain ⟨vs, e2⟩ := ks_of h2.2
    exact ⟨v :: vs, by unfold kVs; rw [e1, e2]⟩
section
variable {X : L2.Cx}
theorem pe_k {d : D} {e : Expr} (h : chkK d e = true) : ∃ v, kV d = some v ∧ PE X e (tC v) := by
  cases e with
  | Constant c j p =>
    cases c <;> cases d <;> first | (simp [chkK] at h; done) | skip
    · exact ⟨_, rfl, pe_non⟩
    · have := of_decide_eq_true (show decide (_ = _) = true from h); subst this; exact ⟨_, rfl, pe_bl⟩
    · have := of_decide_eq_true (show decide (_ = _) = true from h); subst this; exact ⟨_, rfl, pe_int⟩
    · have := of_decide_eq_true (show decide (_ = _) = true from h); subst this; exact ⟨_, rfl, pe_str⟩
  | _ => cases d <;> simp [chkK] at h
theorem notStar_k {d : D} {e : Expr} {es : List Expr} {env : PySem.Env} (h : chkK d e = true) : starEach (e :: es) env = (false, eval e env) :: starEach es env := by
  cases e <;> first | rfl | (cases d <;> simp [chkK] at h)
theorem pa_k : ∀ {ds : List D} {es : List Expr}, chkKs ds es = true → ∃ vs, kVs ds = some vs ∧ PA X es (fun σ H Q => Q vs H)
  | [], [], _ => ⟨[], rfl, pa_nil⟩
  | [], _ :: _, h => by simp [chkKs] at h
  | _ :: _, [], h => by simp [chkKs] at h
  | d :: ds, e :: es, h => by
    have h2 : chkK d e = true ∧ chkKs ds es = true := by simpa [chkKs] using h
    obtain ⟨v, e1, p1⟩ := pe_k (X := X) h2.1
    obtain ⟨vs, e2, p2⟩ := pa_k h2.2
    exact ⟨v :: vs, by unfold kVs; rw [e1, e2], pa_cons p1 p2 (notStar_k h2.1)⟩
end
def HC.slot : HC → Option Nat
  | .fld _ _ _ i => some i
  | _ => none
def HC.ts (K : Frag) (ct : CT) : HC → Addr → Value → Option Addr → TS
  | .fld m w f i => tHdF K ct w f i
  | .kl m ds => fun a cls d D σ H => ∃ vs, kVs ds = some vs ∧ vs.length ≤ sizeLine ∧ ∀ p, H p = none → D.rt (.ref p) (upd H p (.lst vs))
  | .k1 d => fun a cls dd D σ H => ∃ v, kV d = some v ∧ D.rt v H
/-- its text -/
def HC.chk (n : Option Str) : HC → List Stmt → Bool
  | .fld m w f i, [.Return (some (.List [.Constant (.str w') _ _, .Attribute (.Name n' _) f' _] _)) _] => decide (w = w') && decide (f = f') && decide (n = some n')
  | .kl m ds, [.Return (some (.List es _)) _] => chkKs ds es && decide (n = none)
  | .k1 d, [.Return (some e) _] => chkK d e && decide (n = none)
  | _, _ => false
section
variable {X : L2.Cx} {ct : CT}
theorem hc_fld {m : Mode} {w f n : Str} {i : Nat} {body : List Stmt} (hN : X.N[i]? = some n) (hv : Vis X.env.scope n) (hd : (n == ("__debug__" : Str)) = false) (hcd : (n == ("__classdict__" : Str)) = false) (h : HC.chk (some n) (.fld m w f i) body = true) (a : Addr) (oe : Obj) (cls : Value) (d : Option Addr) (pn : List (Addr × Obj)) (hz : Zc cls d oe) (hf : ∃ vs, oe.data = .fields vs) :
    PSs (X.suite a ((a, oe) :: pn)) body (HC.ts X.K ct (.fld m w f i) a cls d) := by
  unfold HC.chk at h
  split at h
  · rename_i m' w1 f1 i1 w' j p1 n' p2 f' p3 p4 p5 e1
    cases e1
    simp only [Bool.and_eq_true, decide_eq_true_eq] at h
    obtain ⟨⟨rfl, rfl⟩, e⟩ := h
    cases e
    refine ⟨fun pins s σ H D I ⟨C, dd, fs, v, T, no, ec, ed, hH, hl, hs, q⟩ => ?_⟩
    have pe := pe_xf (X := X) (e := .Name n p2) (te := tVar i) (pos := p3) T no hz hf (pe_var (X := X.suite a ((a, oe) :: pn)) hN hv hd hcd) rfl
    refine (pss_one (ps_ret (pe_lst (pa_cons pe_str (pa_cons pe pa_nil rfl) rfl)))).run pins s σ H D I ?_
    exact ⟨.ref a, hs, rfl, ec, dd, fs, v, ed, hH, hl, by show 2 ≤ sizeLine; rw [sizeLine_eq]; decide, fun p hp => q p hp⟩
  · rename_i e1; cases e1
  · rename_i e1; cases e1
  · cases h
theorem hc_k {hc : HC} {body : List Stmt} (hs : hc.slot = none) (h : HC.chk none hc body = true) (a : Addr) (oe : Obj) (cls : Value) (d : Option Addr) (pn : List (Addr × Obj)) : PSs (X.suite a ((a, oe) :: pn)) body (HC.ts X.K ct hc a cls d) := by
  cases hc with
  | fld m w f i => cases hs
  | kl m ds =>
    unfold HC.chk at h
    split at h
    · rename_i e1; cases e1
    · rename_i m' ds' es p1 p2 e1
      cases e1
      simp only [Bool.and_eq_true] at h
      obtain ⟨vs, e2, pa⟩ := pa_k (X := X.suite a ((a, oe) :: pn)) h.1
      refine ⟨fun pins s σ H D I ⟨vs', e3, hz, q⟩ => ?_⟩
      rw [e2] at e3; cases e3
      exact (pss_one (ps_ret (pe_lst pa))).run pins s σ H D I ⟨hz, fun p hp => q p hp⟩
    · rename_i e1; cases e1
    · cases h
  | k1 dd =>
    unfold HC.chk at h
    split at h
    · rename_i e1; cases e1
    · rename_i e1; cases e1
    · rename_i d' e p e1
      cases e1
      simp only [Bool.and_eq_true] at h
      obtain ⟨v, e2, pe⟩ := pe_k (X := X.suite a ((a, oe) :: pn)) h.1
      refine ⟨fun pins s σ H D I ⟨v', e3, q⟩ => ?_⟩
      rw [e2] at e3; cases e3
      exact (pss_one (ps_ret pe)).run pins s σ H D I q
    · cases h
/-- what the written part says of the classes -/
structure ErrT (K : Frag) (ct : CT) (cx : Cx) : Prop where
  exm : ∀ c k b, cx.exm c k = some b → ∃ C ns C' ns', ct c = some (C, ns) ∧ ct k = some (C', ns') ∧ PySem.W.exmOne K (.ref C) (.ref C') = some b
  fld : ∀ c f, cx.fld c = some f → ∃ C, ct c = some (C, [f]) ∧ XfC K C ∧ PySem.W.findIn K (.ref C) f = some none
/-- the clauses and their texts -/
inductive HdsD (X : L2.Cx) (ct : CT) : List ExceptHandler → List Hd → List (Value × Option Nat × (Addr → Value → Option Addr → TS)) → Prop
  | nil : HdsD X ct [] [] []
  | fld {x n : Str} {k : Nat} {C : Addr} {ns : List Str} {m : Mode} {w f : Str} {i : Nat} {b₀ : Stmt} {body : List Stmt} {np pos' : Pos} {hds : List ExceptHandler} {hs : List Hd} {l : List (Value × Option Nat × (Addr → Value → Option Addr → TS))}
      (hg : Gl X x) (hd : (x == ("__debug__" : Str)) = false) (hm : X.mg x = some (.ref C)) (hct : ct k = some (C, ns)) (hi : X.N[i]? = some n) (hln : X.env.scope.names.lookup n = some .local) (hnd : (n == ("__debug__" : Str)) = false) (hnc : (n == ("__classdict__" : Str)) = false)
      (hb : HC.chk (some n) (.fld m w f i) (b₀ :: body) = true) (r : HdsD X ct hds hs l) :
      HdsD X ct (.ExceptHandler (some (.Name x np)) (some n) (b₀ :: body) pos' :: hds) (⟨k, .fld m w f i⟩ :: hs) ((.ref C, some i, HC.ts X.K ct (.fld m w f i)) :: l)
  | kon {x : Str} {k : Nat} {C : Addr} {ns : List Str} {hc : HC} {b₀ : Stmt} {body : List Stmt} {np pos' : Pos} {hds : List ExceptHandler} {hs : List Hd} {l : List (Value × Option Nat × (Addr → Value → Option Addr → TS))}
      (hg : Gl X x) (hd : (x == ("__debug__" : Str)) = false) (hm : X.mg x = some (.ref C)) (hct : ct k = some (C, ns)) (hsl : hc.slot = none)
      (hb : HC.chk none hc (b₀ :: body) = true) (r : HdsD X ct hds hs l) :
      HdsD X ct (.ExceptHandler (some (.Name x np)) none (b₀ :: body) pos' :: hds) (⟨k, hc⟩ :: hs) ((.ref C, none, HC.ts X.K ct hc) :: l)
theorem HdsD.any {hds : List ExceptHandler} {hs : List Hd} {l : List (Value × Option Nat × (Addr → Value → Option Addr → TS))} (h : HdsD X ct hds hs l) : HdsA X hds l := by
  induction h with
  | nil => exact .nil
  | fld hg hd hm hct hi hln hnd hnc hb r ih => exact .named ⟨hg, hd, .inl hm⟩ hi hln (fun a oe cls d pn hz hf => hc_fld hi (.inl hln) hnd hnc hb a oe cls d pn hz hf) ih
  | kon hg hd hm hct hsl hb r ih => exact .plain ⟨hg, hd, .inl hm⟩ (fun a oe cls d pn _ _ => hc_k hsl hb a oe cls d pn) ih
theorem HdsD.kk {hds : List ExceptHandler} {hs : List Hd} {l : List (Value × Option Nat × (Addr → Value → Option Addr → TS))} (h : HdsD X ct hds hs l) : True := trivial
theorem chk_kl {m : Mode} {ds : List D} {body : List Stmt} (h : HC.chk none (.kl m ds) body = true) : ∃ vs, kVs ds = some vs := by
  unfold HC.chk at h
  split at h
  · rename_i e1; cases e1
  · rename_i m' ds' es p1 p2 e1
    cases e1
    simp only [Bool.and_eq_true] at h
    exact ks_of h.1
  · rename_i e1; cases e1
  · cases h
theorem chk_k1 {d : D} {body : List Stmt} (h : HC.chk none (.k1 d) body = true) : ∃ v, kV d = some v := by
  unfold HC.chk at h
  split at h
  · rename_i e1; cases e1
  · rename_i e1; cases e1
  · rename_i d' e p e1
    cases e1
    simp only [Bool.and_eq_true] at h
    exact k_of h.1
  · cases h
/-- a new list is what a clause returns -/
theorem hd_list {K : Frag} {H₀ H' : Hp} {g₀ g' g : Gh} {H : Hp} {σ' : St} {ρ : Env} {S' : Store} {P : Env → Prop} {W : WX} {D : Ends} {m : Mode} {ds : List Mini.D} {vs : List V} (r : RelS K H₀ g₀ g' σ' H' ρ S') (rv : Reps K H' g' vs ds)
    (h : OutS K ct P H₀ g₀ H g W D (bnd (place m (.l ds)) (fun x => ret (.rt x)) S')) : ∀ p, H' p = none → D.rt (.ref p) (upd H' p (.lst vs)) := fun p hp => by
  obtain ⟨af, ro⟩ := ro_list r.af hp rv
  exact place_ok (W := fun _ _ _ => True) (place_out h) _ _ _ af ro
theorem hds_any {cx : Cx} {P : Env → Prop} {W : WX} {D : Ends} {H₀ H H' : Hp} {g₀ g g' : Gh} {σ' : St} {ρ : Env} {S' : Store} {c : Nat} {fs : List Mini.D} {cl : Value} {dd : Option Addr} (T : ErrT X.K ct cx) (hp : P ρ) (r : RelS X.K H₀ g₀ g' σ' H' ρ S') (la : Lat H g H' g') (ex : ExcOk X.K ct H' g' c fs cl dd) :
    ∀ {hds : List ExceptHandler} {hs : List Hd} {l : List (Value × Option Nat × (Addr → Value → Option Addr → TS))}, HdsD X ct hds hs l → OutS X.K ct P H₀ g₀ H g W D (exH cx ρ.length hs c fs S') → wAny X.K W D l cl dd σ' H' := by
  intro hds hs l hh
  induction hh with
  | nil => exact fun h => h ρ σ' H' g' cl dd hp la r ex
  | @fld x n k C ns m w f i b₀ body np pos' hds hs l hg hd hm hct hi hln hnd hnc hb rr ih =>
    intro h
    obtain ⟨t, ht, h2⟩ := OutS.lf h
    obtain ⟨C1, ns1, C2, ns2, e1, e2, e3⟩ := T.exm c k t ht
    obtain ⟨C0, ns0, e0, ecl, ed⟩ := ex
    rw [e0] at e1; cases e1
    rw [hct] at e2; cases e2
    refine ⟨t, by rw [ecl]; exact e3, fun et a na => ?_, fun et => ?_⟩
    · subst et
      rw [if_pos rfl] at h2
      unfold hcM at h2
      match fs, h2, ed with
      | [], h2, _ => exact h2.elim
      | [d], h2, ed =>
        obtain ⟨⟨q1, q2⟩, h3⟩ := OutS.it h2
        obtain ⟨C3, q3, q4, q5⟩ := T.fld c f q1
        rw [e0] at q3; cases q3
        rcases ed with ⟨z, _⟩ | ⟨_, d0, xs, rfl, hl, hx, rx⟩
        · cases z
        · obtain ⟨v, rfl, rv⟩ := reps_one rx
          refine ⟨C1, d0, _, v, q4, q5, ecl, rfl, hx, by simp [List.lookup], ?_, fun p hq => hd_list (D := D) r (reps_cons rep_str (reps_cons rv reps_nil)) h3 p hq⟩
          rw [List.getElem?_set_self (by rw [r.rel.len]; exact q2)]
      | _ :: _ :: _, h2, _ => exact h2.elim
    · subst et
      rw [if_neg Bool.false_ne_true] at h2
      exact ih h2
  | @kon x k C ns hc b₀ body np pos' hds hs l hg hd hm hct hsl hb rr ih =>
    intro h
    obtain ⟨t, ht, h2⟩ := OutS.lf h
    obtain ⟨C1, ns1, C2, ns2, e1, e2, e3⟩ := T.exm c k t ht
    obtain ⟨C0, ns0, e0, ecl, ed⟩ := ex
    rw [e0] at e1; cases e1
    rw [hct] at e2; cases e2
    refine ⟨t, by rw [ecl]; exact e3, fun et a na => ?_, fun et => ?_⟩
    · subst et
      rw [if_pos rfl] at h2
      cases hc with
      | fld _ _ _ _ => cases hsl
      | kl m ds =>
        obtain ⟨vs, ev⟩ := chk_kl hb
        unfold hcM at h2
        obtain ⟨q1, h3⟩ := OutS.it h2
        have rv : Reps X.K H' g' vs ds := kVs_rep ev
        exact ⟨vs, ev, by rw [rv.length, line_eq]; exact q1, hd_list r rv h3⟩
      | k1 d =>
        obtain ⟨v, ev⟩ := chk_k1 hb
        exact ⟨v, ev, h2 H' g' v r.af (kV_rep ev)⟩
    · subst et
      rw [if_neg Bool.false_ne_true] at h2
      exact ih h2
theorem ds_try {cx : Cx} {W : WX} {P : Env → Prop} {body : List Stmt} {h₀ : ExceptHandler} {hds : List ExceptHandler} {hs : List Hd} {l : List (Value × Option Nat × (Addr → Value → Option Addr → TS))} {pos : Pos} {m : Env → M Fl} (T : ErrT X.K ct cx)
    (hstk : X.stack = X.env :: X.outer) (hf : X.env.frame = some X.env.locals) (hN : X.N.Nodup) (tk : Takes X W)
    (hb : ∀ (W : WX) (P : Env → Prop) (pn : List (Addr × Obj)) (xe : Value → Shared → Prop), Takes (X.tr pn xe) W → PassesOwn (model X.prog X.w) X.A X.env xe → DSs (X.tr pn xe) ct W P body m)
    (hh : HdsD X ct (h₀ :: hds) hs l) : DS X ct W P (.Try body (h₀ :: hds) [] [] pos) (fun ρ => fun St => match m ρ St with
    | .err c fs S' => exH cx ρ.length hs c fs S'
    | r => r) := by
  refine (ps_try_any (tb := fun W D σ H => ∃ P', TSv X.K ct W P' m D σ H) hstk hf hN tk (fun W pn xe h1 h2 => ⟨fun pins s σ H D I ⟨P', q⟩ => (hb W P' pn xe h1 h2).run pins s σ H D I q⟩) hh.any).imp fun D σ H ⟨H₀, g₀, g, ρ, S, r, hp, h⟩ => ?_
  refine ⟨fun ρ' => ρ' = ρ, H₀, g₀, g, ρ, S, r, rfl, ?_⟩
  cases e : m ρ S with
  | ok fl S1 =>
    simp only [e] at h
    cases fl with
    | nx ρ' => exact fun σ' H' g' l r' hp' => h σ' H' g' l r' (by rw [hp']; exact hp)
    | bk ρ' => exact fun σ' H' g' l r' hp' => h σ' H' g' l r' (by rw [hp']; exact hp)
    | ct ρ' => exact fun σ' H' g' l r' hp' => h σ' H' g' l r' (by rw [hp']; exact hp)
    | rt d => exact h
  | err c fs S1 =>
    simp only [e] at h
    exact fun ρ' σ' H' g' cl dd hp' la r' ex => by
      subst hp'
      exact hds_any T hp r' la ex hh h
  | bad => simp only [e] at h; exact h.elim
end
end Mini

set_option maxHeartbeats 4000000
/-! MINI, part 23: the check of an expression against its text; what it finds is a proof. -/
namespace Mini
open PySem PySem.Spec PyProof.Rows L2
structure Pf (p : Prop) : Type where
  pf : p
/-- a def of the program, as it is called -/
structure FE where
  name : Str
  i : Nat
  pars : Nat
  kws : List (Nat × List Str × List Nat) := []
  deriving DecidableEq
/-- a class of errors -/
structure EE where
  name : Str
  c : Nat
  f : Str
  deriving DecidableEq
structure Tb where
  N : List Str
  sc : Scope
  cel : Str → Bool
  gl : List Str
  fn : List FE
  im : List (Str × String)
  cst : List (Str × D)
  ex : List EE
  hd : List (Str × Nat)
def FnIn (X : L2.Cx) (ct : CT) (Pg : Prog) (k : Nat) (q : FE) : Prop := ∃ f fd ps fn, X.mg q.name = some (.ref f) ∧ PySem.W.keepIn X.K (.ref f) = true ∧ Binds X.K fd ps [] ∧ (∀ w ∈ q.kws, KwB X.K fd ps w.1 w.2.1 w.2.2) ∧
  FnOk X.prog X.w X.K X.mg X.base (L2.CX X.prog X.w) (k + 2) f fd ps (spF X.K ct Pg q.pars k q.i) ∧ Pg.fn q.i = some fn ∧ fn.pars = q.pars
structure XOk (X : L2.Cx) (ct : CT) (Pg : Prog) (k : Nat) (T : Tb) (W : WX) : Prop where
  calm : X.calm = true
  N : X.N = T.N
  nd : X.N.Nodup
  sc : X.env.scope = T.sc
  cel : ∀ x, T.cel x = true → X.fn x = true
  tk : Takes X W
  un : X.A.units + 64 < cLine
  room : Room (k + 2) X.A
  gl : ∀ x ∈ T.gl, X.mg x = none
  fn : ∀ q ∈ T.fn, FnIn X ct Pg k q
  im : ∀ q ∈ T.im, X.mg q.1 = some (.builtin q.2)
  cst : ∀ q ∈ T.cst, ∃ v u, X.mg q.1 = some u ∧ RelV v u ∧ ∀ H g, Rep X.K H g v q.2
def cxO (Pg : Prog) (k : Nat) : Cx := ⟨run Pg k, Pg.exm, Pg.fld, Pg.fuel⟩
def evT (cx : Cx) (e : E) : Env → M Bool := fun ρ => bnd (ev cx e ρ) fun x => look (truth x)
def SE (T : Tb) (e : E) (p : Expr) : Prop := ∀ X ct Pg k W, XOk X ct Pg k T W → DE X ct W p (ev (cxO Pg k) e) ∧ DT X ct W p (evT (cxO Pg k) e)
def SEs (T : Tb) (es : List E) (ps : List Expr) : Prop := ∀ X ct Pg k W, XOk X ct Pg k T W → DA X ct W ps (evs (cxO Pg k) es)
def SF (T : Tb) (f : F) (p : Expr) : Prop := ∀ X ct Pg k W, XOk X ct Pg k T W → DF X ct W p (evF (cxO Pg k) f)
def SO (T : Tb) (o : Option E) (p : Option Expr) : Prop := ∀ X ct Pg k W, XOk X ct Pg k T W → DO X ct W p (evo (cxO Pg k) o)
def SI (T : Tb) (i : I) (tg p : Expr) : Prop := ∀ X ct Pg k W, XOk X ct Pg k T W → DI X ct W tg p (evI (cxO Pg k) i)
def SB (T : Tb) (op : BoolOp) (m : Cx → Env → M D) (ps : List Expr) : Prop := ∀ X ct Pg k W pos, XOk X ct Pg k T W → DE X ct W (.BoolOp op ps pos) (m (cxO Pg k)) ∧ DW X ct W (.BoolOp op ps pos) (fun ρ => bnd (m (cxO Pg k) ρ) fun x => look (truth x))
def STs (T : Tb) (es : List E) (ps : List Expr) : Prop := ∀ X ct Pg k W, XOk X ct Pg k T W → DTs X ct W ps (evIfs (cxO Pg k) es)

/-! ### small facts -/
def gi (T : Tb) (x : Str) : Bool := decide (T.sc.names.lookup x = some .globalImplicit) && !(x == ("__debug__" : Str))
def glb (T : Tb) (x : Str) : Bool := gi T x && (T.gl.contains x && !(x == ("__name__" : Str)))
def vis (T : Tb) (x : Str) : Bool := (decide (T.sc.names.lookup x = some .local) || decide (T.sc.names.lookup x = some .cell) || decide (T.sc.names.lookup x = some .free)) && (!(x == ("__debug__" : Str)) && !(x == ("__classdict__" : Str)))
/-- isTrue of this form asks the value -/
def plainT : Expr → Bool
  | .UnaryOp .Not _ _ => false
  | .BoolOp .. => false
  | .IfExp .. => false
  | .Compare .. => false
  | _ => true
theorem plainT_ok {e : Expr} {env : PySem.Env} (h : plainT e = true) : ∀ whole, PySem.isTrue e env whole = (do let v ← whole; standAt e.pos; holding [v] (truthy v)) := by
  intro whole
  cases e with
  | UnaryOp op a p => cases op <;> first | rfl | (simp [plainT] at h)
  | BoolOp _ _ _ => simp [plainT] at h
  | IfExp _ _ _ _ => simp [plainT] at h
  | Compare _ _ _ _ => simp [plainT] at h
  | _ => rfl
section
variable {X : L2.Cx} {ct : CT} {Pg : Prog} {k : Nat} {T : Tb} {W : WX} {x : Str}
theorem XOk.gi_ (h : XOk X ct Pg k T W) (g : gi T x = true) : Gl X x ∧ (x == ("__debug__" : Str)) = false := by
  unfold gi at g
  rw [Bool.and_eq_true, decide_eq_true_eq, Bool.not_eq_true'] at g
  exact ⟨by show X.env.scope.names.lookup x = _; rw [h.sc]; exact g.1, g.2⟩
theorem XOk.glb_ (h : XOk X ct Pg k T W) (g : glb T x = true) : Gl X x ∧ X.mg x = none ∧ (x == ("__debug__" : Str)) = false ∧ x ≠ "__name__" := by
  unfold glb at g
  rw [Bool.and_eq_true, Bool.and_eq_true, Bool.not_eq_true'] at g
  obtain ⟨g1, g2⟩ := h.gi_ g.1
  refine ⟨g1, h.gl x (by simpa using g.2.1), g2, fun e => ?_⟩
  have := g.2.2
  rw [e] at this
  simp at this
theorem XOk.vis_ (h : XOk X ct Pg k T W) (g : vis T x = true) : Vis X.env.scope x ∧ (x == ("__debug__" : Str)) = false ∧ (x == ("__classdict__" : Str)) = false := by
  unfold vis at g
  simp only [Bool.and_eq_true, Bool.or_eq_true, decide_eq_true_eq, Bool.not_eq_true'] at g
  refine ⟨?_, g.2.1, g.2.2⟩
  rw [h.sc]
  rcases g.1 with (q | q) | q
  · exact .inl q
  · exact .inr (.inl q)
  · exact .inr (.inr q)
theorem se_plain {e : E} {p : Expr} (hp : plainT p = true) (h : ∀ X ct Pg k W, XOk X ct Pg k T W → DE X ct W p (ev (cxO Pg k) e)) : SE T e p := fun X ct Pg k W x =>
  ⟨h X ct Pg k W x, dt_val (h X ct Pg k W x) (plainT_ok hp)⟩
end
def Bop.py : Bop → Operator
  | .add => .Add
  | .sub => .Sub
  | .mul => .Mult
  | .fdiv => .FloorDiv
  | .mod => .Mod
  | .pow => .Pow
theorem bop_ok {X : L2.Cx} : ∀ op : Bop, ∃ r, OpR X (binaryOp op.py) r ∧ OpD X.K r op.ev
  | .add => ⟨_, op_addAll, opD_add⟩
  | .sub => ⟨_, op_sub, opD_sub⟩
  | .mul => ⟨_, op_mulAll, opD_mul⟩
  | .fdiv => ⟨_, op_fdivW, opD_fdiv⟩
  | .mod => ⟨_, op_mod, opD_mod⟩
  | .pow => ⟨_, op_pow, opD_pow⟩
def Cop.py : Cop → CmpOp
  | .eq => .Eq
  | .ne => .NotEq
  | .lt => .Lt
  | .le => .LtE
  | .gt => .Gt
  | .ge => .GtE
  | .is => .Is
  | .isnot => .IsNot
  | .in_ => .In
  | .notin => .NotIn
theorem cop_ok {X : L2.Cx} (hu : X.A.units + 64 < cLine) : ∀ op : Cop, ∃ r, OpR X (compareOp op.py) r ∧ OpB X.K r op.ev
  | .eq => ⟨_, op_eqP hu, opB_eq⟩
  | .ne => ⟨_, op_neP hu, opB_ne⟩
  | .lt => ⟨_, op_ltA hu, opB_lt⟩
  | .le => ⟨_, op_leA hu, opB_le⟩
  | .gt => ⟨_, op_gtA hu, opB_gt⟩
  | .ge => ⟨_, op_geA hu, opB_ge⟩
  | .is => ⟨_, op_isAll, opB_is⟩
  | .isnot => ⟨_, op_isntAll, opB_isnt⟩
  | .in_ => ⟨_, op_inA hu, opB_in⟩
  | .notin => ⟨_, op_notInA hu, opB_notin⟩
/-- a built-in function's name; whether it is a type -/
def Bi.nm : Bi → Option (Str × Bool × String)
  | .len => some ("len", false, "len")
  | .abs => some ("abs", false, "abs")
  | .int => some ("int", true, "int")
  | .str => some ("str", true, "str")
  | .sum => some ("sum", false, "sum")
  | .max => some ("max", false, "max")
  | .min => some ("min", false, "min")
  | .max2 => some ("max", false, "max")
  | .min2 => some ("min", false, "min")
  | .all => some ("all", false, "all")
  | .any => some ("any", false, "any")
  | .tuple => some ("tuple", true, "tuple")
  | .maxd => none
  | .factorial => none
def biV (ty : Bool) (id : String) : Value := if ty then .type id else .builtin id
theorem bi_boot {b : Bi} {x : Str} {ty : Bool} {id : String} (h : b.nm = some (x, ty, id)) : bootBuiltins x = some (biV ty id) := by
  cases b <;> cases h <;> decide +kernel
theorem bi_ok {X : L2.Cx} (hc : X.calm = true) (hu : X.A.units + 64 < cLine) {b : Bi} {x : Str} {ty : Bool} {id : String} (h : b.nm = some (x, ty, id)) : ∃ r, CallR X (biV ty id) r ∧ CallD X.K r b.ev := by
  cases b <;> cases h
  · exact ⟨_, call_lenAll, bi_len⟩
  · exact ⟨_, call_abs, bi_abs⟩
  · exact ⟨_, call_int1, bi_int⟩
  · exact ⟨_, call_str_int, bi_str⟩
  · exact ⟨_, cr_sumA hc, bi_sum⟩
  · exact ⟨_, cr_maxA hc hu, bi_max⟩
  · exact ⟨_, cr_minA hc hu, bi_min⟩
  · exact ⟨_, call_max2 hc, bi_max2⟩
  · exact ⟨_, call_min2 hc, bi_min2⟩
  · exact ⟨_, cr_allA hc, bi_all⟩
  · exact ⟨_, cr_anyA hc, bi_any⟩
  · exact ⟨_, call_tuple_of, bi_tuple⟩
/-- a method of lists: its name, with arguments or without -/
def Mt.nm : Mt → Str × Bool
  | .append => ("append", true)
  | .extend => ("extend", true)
  | .popAt => ("pop", true)
  | .pop => ("pop", false)
  | .reverse => ("reverse", false)
  | .clear => ("clear", false)
theorem mt_ok1 {X : L2.Cx} : ∀ {m : Mt}, m.nm.2 = true → ∃ id r, PySem.Slot "list" m.nm.1 id ∧ typeOf (.builtin id) = pure (.type "method_descriptor") ∧ MtR X id r ∧ MtD X.K r m
  | .append, _ => ⟨_, _, PySem.F.slot_list_append, PySem.F.type_list_append, mt_append, mtD_append⟩
  | .extend, _ => ⟨_, _, PySem.F.slot_list_extend, PySem.F.type_list_extend, mt_extendA, mtD_extend⟩
  | .popAt, _ => ⟨_, _, PySem.F.slot_list_pop, PySem.F.type_list_pop, mt_popAt, mtD_popAt⟩
theorem mt_ok0 {X : L2.Cx} : ∀ {m : Mt}, m.nm.2 = false → ∃ id r, PySem.Slot "list" m.nm.1 id ∧ typeOf (.builtin id) = pure (.type "method_descriptor") ∧ MtR X id r ∧ MtD X.K r m
  | .pop, _ => ⟨_, _, PySem.F.slot_list_pop, PySem.F.type_list_pop, mt_pop, mtD_pop⟩
  | .reverse, _ => ⟨_, _, PySem.F.slot_list_reverse, PySem.F.type_list_reverse, mt_reverse, mtD_reverse⟩
  | .clear, _ => ⟨_, _, PySem.F.slot_list_clear, PySem.F.type_list_clear, mt_clear, mtD_clear⟩
def notSlice : Expr → Bool
  | .Slice .. => false
  | _ => true
theorem plainIx_of {b : Expr} (h : notSlice b = true) : PlainIx b := by
  intro o i
  cases b <;> first | rfl | (simp [notSlice] at h)
/-- an expression that super is not -/
def notCall : Expr → Bool
  | .Call .. => false
  | _ => true
theorem base_of {o : Expr} {name : Str} {env : PySem.Env} (h : notCall o = true) : attributeBase o name env (eval o env) = eval o env := by
  cases o <;> first | rfl | (simp [notCall] at h)
theorem bnd_truth_and {m n : M D} : bnd (bnd m fun x => bnd (look (truth x)) fun k => if k then n else ret x) (fun x => look (truth x)) = bnd (bnd m fun x => look (truth x)) fun k => if k then bnd n (fun x => look (truth x)) else ret false := by
  funext S
  simp only [bnd]
  cases m S with
  | bad => rfl
  | err _ _ _ => rfl
  | ok x S1 =>
    simp only [look]
    cases e : truth x S1 with
    | none => rfl
    | some k =>
      cases k with
      | true => rfl
      | false => simp [ret, e]
theorem bnd_truth_or {m n : M D} : bnd (bnd m fun x => bnd (look (truth x)) fun k => if k then ret x else n) (fun x => look (truth x)) = bnd (bnd m fun x => look (truth x)) fun k => if k then ret true else bnd n (fun x => look (truth x)) := by
  funext S
  simp only [bnd]
  cases m S with
  | bad => rfl
  | err _ _ _ => rfl
  | ok x S1 =>
    simp only [look]
    cases e : truth x S1 with
    | none => rfl
    | some k =>
      cases k with
      | false => rfl
      | true => simp [ret, e]
theorem bnd_bl (m : M Bool) (f : Bool → Bool) : bnd (bnd m fun k => ret (D.bl (f k))) (fun x => look (truth x)) = bnd m fun k => ret (f k) := by
  funext S
  simp only [bnd]
  cases m S <;> rfl
theorem bnd_id (m : M Bool) : (bnd m fun k => ret k) = m := by
  funext S
  simp only [bnd]
  cases m S <;> rfl
end Mini

set_option maxHeartbeats 4000000
/-! MINI, part 24: the check of expressions. -/
namespace Mini
open PySem PySem.Spec PyProof.Rows L2
/-! ### targets -/
def ST (B : Tb) (t : T) (p : Expr) : Prop := ∀ X ct Pg k W, XOk X ct Pg k B W → DG X p t.vars (asgO t)
def STt (B : Tb) (ts : List Mini.T) (ps : List Expr) : Prop := ∀ X ct Pg k W, XOk X ct Pg k B W → DGs X ps (Mini.T.varss ts) (asgOs ts)
def locB (B : Tb) (x : Str) : Bool := decide (B.sc.names.lookup x = some .local) || (decide (B.sc.names.lookup x = some .cell) && B.cel x)
theorem XOk.loc_ {X : L2.Cx} {ct : CT} {Pg : Prog} {k : Nat} {B : Tb} {W : WX} {x : Str} (h : XOk X ct Pg k B W) (g : locB B x = true) : L2.Loc X.env.scope x ∧ (X.fn x = true ∨ X.env.scope.names.lookup x = some .local) := by
  unfold locB at g
  simp only [Bool.or_eq_true, Bool.and_eq_true, decide_eq_true_eq] at g
  unfold L2.Loc
  rw [h.sc]
  rcases g with g | ⟨g1, g2⟩
  · exact ⟨.inl g, .inr g⟩
  · exact ⟨.inr g1, .inl (h.cel x g2)⟩
def notStarE : Expr → Bool
  | .Starred .. => false
  | _ => true
theorem asgEach_cons {a : Expr} {es : List Expr} {env : PySem.Env} (h : notStarE a = true) : assignEach (a :: es) env = (false, assign a env) :: assignEach es env := by
  cases a <;> first | rfl | (simp [notStarE] at h)
theorem asgEach_len {env : PySem.Env} : ∀ {es : List Expr}, es.all notStarE = true → (assignEach es env).length = es.length ∧ (assignEach es env).findIdx? (·.1) = none
  | [], _ => ⟨rfl, rfl⟩
  | a :: es, h => by
    have h2 : notStarE a = true ∧ es.all notStarE = true := by simpa using h
    obtain ⟨h3, h4⟩ := asgEach_len (env := env) h2.2
    rw [asgEach_cons h2.1]
    refine ⟨by simp [h3], ?_⟩
    rw [List.findIdx?_cons, h4]
    rfl
mutual
def ckT : (t : T) → (B : Tb) → (p : Expr) → Option (Pf (ST B t p))
  | .name i, B, p => match p with
    | .Name x pos => if h : B.N[i]? = some x ∧ locB B x = true then
        some ⟨fun X ct Pg k W o => dg_name o.nd (by rw [o.N]; exact h.1) (o.loc_ h.2).1 (o.loc_ h.2).2⟩
      else none
    | _ => none
  | .tup ts, B, p => match p with
    | .Tuple ps n pos => match ckTs ts B ps with
      | some q => if h : ps.all notStarE = true ∧ ps.length = ts.length then
          some ⟨fun X ct Pg k W o => dg_tup o.calm (q.pf X ct Pg k W o) (by rw [(asgEach_len h.1).1]; exact h.2) (asgEach_len h.1).2⟩
        else none
      | none => none
    | _ => none
def ckTs : (ts : List T) → (B : Tb) → (ps : List Expr) → Option (Pf (STt B ts ps))
  | [], B, ps => match ps with
    | [] => some ⟨fun X ct Pg k W o => dgs_nil⟩
    | _ => none
  | t :: ts, B, ps => match ps with
    | p :: ps => match ckT t B p, ckTs ts B ps with
      | some q1, some q2 => if h : notStarE p = true then some ⟨fun X ct Pg k W o => dgs_cons (q1.pf X ct Pg k W o) (q2.pf X ct Pg k W o) (by rw [asgEach_cons h]; rfl)⟩ else none
      | _, _ => none
    | _ => none
end
/-! ### the types of isinstance -/
def Ty.pyn (t : Ty) : Str := Str.ofString t.nm
theorem ty_boot : ∀ {t : Ty}, t ≠ .non → bootBuiltins t.pyn = some (.type t.nm)
  | .bool, _ => by decide +kernel
  | .int, _ => by decide +kernel
  | .str, _ => by decide +kernel
  | .list, _ => by decide +kernel
  | .tuple, _ => by decide +kernel
  | .dict, _ => by decide +kernel
def tyChk (B : Tb) : List Ty → List Expr → Bool
  | [], [] => true
  | t :: ts, .Name x _ :: ps => decide (t ≠ .non) && (decide (x = t.pyn) && (glb B x && tyChk B ts ps))
  | _, _ => false
theorem tyChk_ok {X : L2.Cx} {ct : CT} {Pg : Prog} {k : Nat} {B : Tb} {W : WX} (o : XOk X ct Pg k B W) : ∀ {ts : List Ty} {ps : List Expr}, tyChk B ts ps = true →
    ∃ Ts : List (Str × Ty × Pos), ps = Ts.map (fun q => Expr.Name q.1 q.2.2) ∧ ts = Ts.map (fun q => q.2.1) ∧ ∀ q ∈ Ts, Gl X q.1 ∧ X.mg q.1 = none ∧ bootBuiltins q.1 = some (.type q.2.1.nm) ∧ q.1 ≠ "__name__" ∧ (q.1 == ("__debug__" : Str)) = false
  | [], [], _ => ⟨[], rfl, rfl, fun _ h => by cases h⟩
  | [], _ :: _, h => by simp [tyChk] at h
  | _ :: _, [], h => by simp [tyChk] at h
  | t :: ts, p :: ps, h => by
    cases p with
    | Name x q =>
      simp only [tyChk, Bool.and_eq_true, decide_eq_true_eq] at h
      obtain ⟨h1, h2, h3, h4⟩ := h
      obtain ⟨Ts, e1, e2, h5⟩ := tyChk_ok o h4
      obtain ⟨g1, g2, g3, g4⟩ := o.glb_ h3
      refine ⟨(x, t, q) :: Ts, by rw [e1]; rfl, by rw [e2]; rfl, fun z hz => ?_⟩
      rcases List.mem_cons.mp hz with rfl | hz
      · exact ⟨g1, g2, by rw [h2]; exact ty_boot h1, g4, g3⟩
      · exact h5 z hz
    | _ => simp [tyChk] at h
/-! ### comprehensions -/
def blkP (N : List Str) (sc scope : Scope) (own : List (Str × Nat)) : Bool :=
  decide (scope.kind = .function) && (scope.names.all (fun y => decide (scope.names.lookup y.1 = some y.2)) && (own.all (fun p => decide (N[p.2]? = some p.1)) &&
    (scope.names.all (fun y => decide (y.2 = .free → sc.names.lookup y.1 = some .cell ∨ sc.names.lookup y.1 = some .free)) && scope.names.all (fun y => decide (y.2 = .local ∨ y.2 = .cell → y.1 ∈ own.map (·.1) ∨ y.1 ∉ N)))))
theorem blkP_ok {N : List Str} {sc scope : Scope} {own : List (Str × Nat)} (h : blkP N sc scope own = true) : BlkOk N sc scope own := by
  unfold blkP at h
  simp only [Bool.and_eq_true, List.all_eq_true, decide_eq_true_eq] at h
  obtain ⟨h1, h2, h3, h4, h5⟩ := h
  exact ⟨h1, h2, h3, h4, h5⟩
def ownL (N : List Str) (own : List Nat) : List (Str × Nat) := own.map fun i => (N.getD i ⟨#[]⟩, i)
theorem ownL_snd (N : List Str) (own : List Nat) : (ownL N own).map (·.2) = own := by
  unfold ownL
  rw [List.map_map]
  exact List.map_id _
def Tb.blk (B : Tb) (scope : Scope) : Tb := { B with sc := relS scope B.sc, cel := fun x => scope.names.lookup x == some .cell }
theorem XOk.blk {X : L2.Cx} {ct : CT} {Pg : Prog} {k : Nat} {B : Tb} {W : WX} (o : XOk X ct Pg k B W) (scope : Scope) (s : Shared) (H : Hp) (C : Addr) (cl : List (Str × Addr)) (fp : List Addr) :
    XOk (X.blk s H scope (compEnvC scope cl C X.env) fp) ct Pg k (B.blk scope) (fun _ _ _ _ => False) :=
  ⟨o.calm, o.N, o.nd, by show relS scope X.env.scope = _; rw [o.sc]; rfl, fun x h => h, takes0, o.un, o.room, o.gl, o.fn, o.im, o.cst⟩
def notSet : Expr → Bool
  | .Set .. => false
  | _ => true
theorem notSet_ok {e : Expr} (h : notSet e = true) : ∀ (env : PySem.Env) (x : Value), foldedSetIterable e env x = pure x := by
  intro env x
  cases e <;> first | rfl | (simp [notSet] at h)
theorem evIfs_one {cx : Cx} {e : E} : evIfs cx [e] = evT cx e := by
  funext ρ
  show (bnd (ev cx e ρ) fun x => bnd (look (truth x)) fun k => if k then evIfs cx [] ρ else ret false) = bnd (ev cx e ρ) fun x => look (truth x)
  congr 1
  funext x
  funext S
  simp only [bnd, look]
  cases truth x S with
  | none => rfl
  | some b => cases b <;> rfl
end Mini

set_option maxHeartbeats 4000000
/-! MINI, part 25: the check of expressions. -/
namespace Mini
open PySem PySem.Spec PyProof.Rows L2
def SK (B : Tb) (es : List E) (ks : List Keyword) : Prop := ∀ X ct Pg k W, XOk X ct Pg k B W → DK X ct W ks (evs (cxO Pg k) es)
def E.isStar : E → Bool
  | .star _ => true
  | _ => false
theorem evs_cons {cx : Cx} {e : E} {es : List E} (h : e.isStar = false) : evs cx (e :: es) = fun ρ => bnd (ev cx e ρ) fun x => bnd (evs cx es ρ) fun xs => ret (x :: xs) := by
  cases e <;> first | rfl | (simp [E.isStar] at h)
theorem notStar_cons {p : Expr} {ps : List Expr} {env : PySem.Env} (h : notStarE p = true) : starEach (p :: ps) env = (false, eval p env) :: starEach ps env := by
  cases p <;> first | rfl | (simp [notStarE] at h)
section
variable {B : Tb}
theorem se_k {d : D} {p : Expr} (h : chkK d p = true) : SE B (.k d) p := by
  cases p with
  | Constant c j q =>
    refine se_plain rfl fun X ct Pg k W o => ?_
    cases c <;> cases d <;> first | (simp [chkK] at h; done) | skip
    · exact de_non
    · have := of_decide_eq_true (show decide (_ = _) = true from h); subst this; exact de_bl
    · have := of_decide_eq_true (show decide (_ = _) = true from h); subst this; exact de_int
    · have := of_decide_eq_true (show decide (_ = _) = true from h); subst this; exact de_str
  | _ => cases d <;> simp [chkK] at h
theorem se_var {i : Nat} {x : Str} {q : Pos} (h1 : B.N[i]? = some x) (h2 : vis B x = true) : SE B (.var i) (.Name x q) :=
  se_plain rfl fun X ct Pg k W o => de_var (by rw [o.N]; exact h1) (o.vis_ h2).1 (o.vis_ h2).2.1 (o.vis_ h2).2.2
theorem se_glob {x : Str} {d : D} {q : Pos} (h1 : (x, d) ∈ B.cst) (h2 : gi B x = true) : SE B (.glob x d) (.Name x q) :=
  se_plain rfl fun X ct Pg k W o => by
    obtain ⟨v, u, hm, r, hr⟩ := o.cst _ h1
    exact L2.PE.imp (pe_glob (o.gi_ h2).1 hm r (o.gi_ h2).2) fun σ H Q ⟨g, ρ, S, r, h⟩ => h H g v r.self (hr H g)
theorem se_tup {es : List E} {ps : List Expr} {n : Nat} {q : Pos} (h : SEs B es ps) : SE B (.tup es) (.Tuple ps n q) := se_plain rfl fun X ct Pg k W o => de_tup (h X ct Pg k W o)
theorem se_dct0 {q : Pos} : SE B .dct0 (.Dict [] [] q) := se_plain rfl fun X ct Pg k W o => by
  have e : ev (cxO Pg k) .dct0 = fun _ => ret (.dct [] []) := by funext ρ; rw [ev]
  rw [e]
  exact de_dct0
theorem se_new {m : Mode} {f : F} {p : Expr} (hp : plainT p = true) (h : SF B f p) : SE B (.new m f) p := se_plain hp fun X ct Pg k W o => de_new (h X ct Pg k W o)
theorem se_bin {op : Bop} {a b : E} {pa pb : Expr} {q : Pos} (ha : SE B a pa) (hb : SE B b pb) : SE B (.bin op a b) (.BinOp pa op.py pb q) := se_plain rfl fun X ct Pg k W o => by
  obtain ⟨r, h1, h2⟩ := bop_ok (X := X) op
  have e : ev (cxO Pg k) (.bin op a b) = fun ρ => bnd (ev (cxO Pg k) a ρ) fun x => bnd (ev (cxO Pg k) b ρ) fun y => look (op.ev x y) := by
    funext ρ
    show (bnd _ fun x => bnd _ fun y => lookD (op.ev x y)) = _
    simp only [lookD_eq]
  rw [e]
  exact de_op h1 h2 (ha X ct Pg k W o).1 (hb X ct Pg k W o).1
theorem se_neg {a : E} {pa : Expr} {q : Pos} (ha : SE B a pa) : SE B (.neg a) (.UnaryOp .USub pa q) := se_plain rfl fun X ct Pg k W o => by
  have e : ev (cxO Pg k) (.neg a) = fun ρ => bnd (ev (cxO Pg k) a ρ) fun (x : D) => match x with
      | D.int i => (ret (D.int (-i)) : M D)
      | _ => bad := by
    funext ρ
    rw [ev]
    congr 1
    funext x
    cases x <;> first | rfl | simp only [retD_eq]
  rw [e]
  exact de_neg (ha X ct Pg k W o).1
theorem se_not {a : E} {pa : Expr} {q : Pos} (ha : SE B a pa) : SE B (.not a) (.UnaryOp .Not pa q) := fun X ct Pg k W o => by
  have e : ev (cxO Pg k) (.not a) = fun ρ => bnd (ev (cxO Pg k) a ρ) fun x => bnd (look (truth x)) fun k => ret (.bl (!k)) := by
    funext ρ
    show (bnd _ fun x => bnd _ fun k => retD _) = _
    simp only [retD_eq]
  refine ⟨by rw [e]; exact de_not (ha X ct Pg k W o).1, ?_⟩
  have e2 : evT (cxO Pg k) (.not a) = fun ρ => bnd (evT (cxO Pg k) a ρ) fun k => ret (!k) := by
    funext ρ
    unfold evT
    rw [e]
    show bnd (bnd _ fun x => bnd (look (truth x)) fun k => ret (.bl (!k))) (fun x => look (truth x)) = bnd (bnd _ fun x => look (truth x)) fun k => ret (!k)
    rw [bnd_assoc, bnd_assoc]
    congr 1
    funext x
    exact bnd_bl (look (truth x)) not
  rw [e2]
  exact dt_not (ha X ct Pg k W o).2
theorem se_cmp {op : Cop} {a b : E} {pa pb : Expr} {q : Pos} (ha : SE B a pa) (hb : SE B b pb) (hm : behindInMarks op.py pb = false) : SE B (.cmp op a b) (.Compare pa [op.py] [pb] q) := fun X ct Pg k W o => by
  obtain ⟨r, h1, h2⟩ := cop_ok (X := X) o.un op
  have e : ev (cxO Pg k) (.cmp op a b) = fun ρ => bnd (ev (cxO Pg k) a ρ) fun x => bnd (ev (cxO Pg k) b ρ) fun y => bnd (look (op.ev x y)) fun k => ret (.bl k) := by
    funext ρ
    show (bnd _ fun x => bnd _ fun y => bnd _ fun k => retD _) = _
    simp only [retD_eq]
  refine ⟨by rw [e]; exact de_cmp h1 h2 (ha X ct Pg k W o).1 (hb X ct Pg k W o).1 hm, ?_⟩
  have e2 : evT (cxO Pg k) (.cmp op a b) = fun ρ => bnd (ev (cxO Pg k) a ρ) fun x => bnd (ev (cxO Pg k) b ρ) fun y => look (op.ev x y) := by
    funext ρ
    unfold evT
    rw [e]
    show bnd (bnd _ fun x => bnd _ fun y => bnd (look (op.ev x y)) fun k => ret (.bl k)) (fun x => look (truth x)) = _
    rw [bnd_assoc]
    congr 1
    funext x
    rw [bnd_assoc]
    congr 1
    funext y
    exact (bnd_bl (look (op.ev x y)) id).trans (bnd_id _)
  rw [e2]
  exact dt_cmp h1 h2 (ha X ct Pg k W o).1 (hb X ct Pg k W o).1 hm
theorem se_chain {o1 o2 : Cop} {a b c : E} {pa pb pc : Expr} {q : Pos} (ha : SE B a pa) (hb : SE B b pb) (hc : SE B c pc) (hm : lastMarks [o1.py, o2.py] [pb, pc] = false) : SE B (.chain o1 o2 a b c) (.Compare pa [o1.py, o2.py] [pb, pc] q) := fun X ct Pg k W o => by
  obtain ⟨r, h1, h2⟩ := cop_ok (X := X) o.un o1
  obtain ⟨r', h3, h4⟩ := cop_ok (X := X) o.un o2
  have e : ev (cxO Pg k) (.chain o1 o2 a b c) = fun ρ => bnd (ev (cxO Pg k) a ρ) fun x => bnd (ev (cxO Pg k) b ρ) fun y => bnd (look (o1.ev x y)) fun t =>
      if t then bnd (ev (cxO Pg k) c ρ) fun z => bnd (look (o2.ev y z)) fun k2 => ret (.bl k2) else ret (.bl false) := by
    funext ρ
    rw [ev]
    simp only [retD_eq]
  refine ⟨by rw [e]; exact de_chain h1 h2 h3 h4 (ha X ct Pg k W o).1 (hb X ct Pg k W o).1 (hc X ct Pg k W o).1 hm, ?_⟩
  have e2 : evT (cxO Pg k) (.chain o1 o2 a b c) = fun ρ => bnd (ev (cxO Pg k) a ρ) fun x => bnd (ev (cxO Pg k) b ρ) fun y => bnd (look (o1.ev x y)) fun t =>
      if t then bnd (ev (cxO Pg k) c ρ) fun z => look (o2.ev y z) else ret false := by
    funext ρ
    unfold evT
    rw [e]
    show bnd (bnd _ fun x => bnd _ fun y => bnd (look (o1.ev x y)) fun t => if t then bnd (ev (cxO Pg k) c ρ) fun z => bnd (look (o2.ev y z)) fun k2 => ret (.bl k2) else ret (.bl false)) (fun x => look (truth x)) = _
    rw [bnd_assoc]
    congr 1
    funext x
    rw [bnd_assoc]
    congr 1
    funext y
    rw [bnd_assoc]
    congr 1
    funext t
    cases t with
    | false => rfl
    | true =>
      rw [if_pos rfl, if_pos rfl, bnd_assoc]
      congr 1
      funext z
      exact (bnd_bl (look (o2.ev y z)) id).trans (bnd_id _)
  rw [e2]
  exact dt_chain h1 h2 h3 h4 (ha X ct Pg k W o).1 (hb X ct Pg k W o).1 (hc X ct Pg k W o).1 hm
theorem se_ite {c a b : E} {pc pa pb : Expr} {q : Pos} (hc : SE B c pc) (ha : SE B a pa) (hb : SE B b pb) : SE B (.ite c a b) (.IfExp pc pa pb q) := fun X ct Pg k W o => by
  have e : ev (cxO Pg k) (.ite c a b) = fun ρ => bnd (evT (cxO Pg k) c ρ) fun k' => if k' then ev (cxO Pg k) a ρ else ev (cxO Pg k) b ρ := by
    funext ρ
    unfold evT
    rw [bnd_assoc]
    rfl
  refine ⟨by rw [e]; exact de_ite (hc X ct Pg k W o).2 (ha X ct Pg k W o).1 (hb X ct Pg k W o).1, ?_⟩
  have e2 : evT (cxO Pg k) (.ite c a b) = fun ρ => bnd (evT (cxO Pg k) c ρ) fun k' => if k' then evT (cxO Pg k) a ρ else evT (cxO Pg k) b ρ := by
    funext ρ
    show bnd (ev (cxO Pg k) (.ite c a b) ρ) (fun x => look (truth x)) = _
    rw [e]
    show bnd (bnd (evT (cxO Pg k) c ρ) fun k' => if k' then ev (cxO Pg k) a ρ else ev (cxO Pg k) b ρ) (fun x => look (truth x)) = _
    rw [bnd_assoc]
    congr 1
    funext t
    cases t <;> rfl
  rw [e2]
  exact dt_ite (hc X ct Pg k W o).2 (ha X ct Pg k W o).2 (hb X ct Pg k W o).2
theorem se_boo {op : BoolOp} {e : E} {m : Cx → Env → M D} {ps : List Expr} {q : Pos} (he : ∀ cx, ev cx e = m cx) (h : SB B op m ps) : SE B e (.BoolOp op ps q) := fun X ct Pg k W o => by
  obtain ⟨h1, h2⟩ := h X ct Pg k W q o
  refine ⟨by rw [he]; exact h1, ?_⟩
  have e2 : evT (cxO Pg k) e = fun ρ => bnd (m (cxO Pg k) ρ) fun x => look (truth x) := by
    funext ρ
    unfold evT
    rw [he]
  rw [e2]
  exact h2.pt
theorem sb_one {op : BoolOp} {a : E} {pa : Expr} (ha : SE B a pa) (ho : op = .And ∨ op = .Or) : SB B op (fun cx ρ => ev cx a ρ) [pa] := fun X ct Pg k W pos o => by
  refine ⟨de_one (ha X ct Pg k W o).1, ?_⟩
  rcases ho with rfl | rfl
  · exact dw_and1 (ha X ct Pg k W o).2
  · exact dw_or1 (ha X ct Pg k W o).2
theorem sb_and {a : E} {m : Cx → Env → M D} {pa pb : Expr} {ps : List Expr} (ha : SE B a pa) (hb : SB B .And m (pb :: ps)) : SB B .And (fun cx ρ => bnd (ev cx a ρ) fun x => bnd (look (truth x)) fun k => if k then m cx ρ else ret x) (pa :: pb :: ps) := fun X ct Pg k W pos o => by
  refine ⟨de_and (ha X ct Pg k W o).1 (hb X ct Pg k W pos o).1, ?_⟩
  have := dw_and (ha X ct Pg k W o).2 (hb X ct Pg k W pos o).2
  have e : (fun ρ => bnd (bnd (ev (cxO Pg k) a ρ) fun x => bnd (look (truth x)) fun k' => if k' then m (cxO Pg k) ρ else ret x) fun x => look (truth x)) = fun ρ => bnd (evT (cxO Pg k) a ρ) fun k' => if k' then bnd (m (cxO Pg k) ρ) (fun x => look (truth x)) else ret false := by
    funext ρ
    exact bnd_truth_and
  rw [e]
  exact this
theorem sb_or {a : E} {m : Cx → Env → M D} {pa pb : Expr} {ps : List Expr} (ha : SE B a pa) (hb : SB B .Or m (pb :: ps)) : SB B .Or (fun cx ρ => bnd (ev cx a ρ) fun x => bnd (look (truth x)) fun k => if k then ret x else m cx ρ) (pa :: pb :: ps) := fun X ct Pg k W pos o => by
  refine ⟨de_or (ha X ct Pg k W o).1 (hb X ct Pg k W pos o).1, ?_⟩
  have := dw_or (ha X ct Pg k W o).2 (hb X ct Pg k W pos o).2
  have e : (fun ρ => bnd (bnd (ev (cxO Pg k) a ρ) fun x => bnd (look (truth x)) fun k' => if k' then ret x else m (cxO Pg k) ρ) fun x => look (truth x)) = fun ρ => bnd (evT (cxO Pg k) a ρ) fun k' => if k' then ret true else bnd (m (cxO Pg k) ρ) (fun x => look (truth x)) := by
    funext ρ
    exact bnd_truth_or
  rw [e]
  exact this
theorem se_call {x : Str} {i : Nat} {es : List E} {p1 q : Pos} {pa : Expr} {ps : List Expr} {fe : FE} (h : SEs B es (pa :: ps)) (hf : fe ∈ B.fn) (hx : fe.name = x) (hi : fe.i = i) (hg : gi B x = true) (hn : noStar (pa :: ps) = true) : SE B (.call i es) (.Call (.Name x p1) (pa :: ps) [] q) :=
  se_plain rfl fun X ct Pg k W o => by
    subst hx hi
    obtain ⟨f, fd, prs, fn, h1, h2, h3, h4, h5, h6, h7⟩ := o.fn fe hf
    exact de_call h5 o.tk o.room (o.gi_ hg).1 h1 h2 h3 h6 h7 (h X ct Pg k W o) (o.gi_ hg).2 hn
theorem se_call0 {x : Str} {i : Nat} {p1 q : Pos} {fe : FE} (hf : fe ∈ B.fn) (hx : fe.name = x) (hi : fe.i = i) (hg : gi B x = true) : SE B (.call i []) (.Call (.Name x p1) [] [] q) :=
  se_plain rfl fun X ct Pg k W o => by
    subst hx hi
    obtain ⟨f, fd, prs, fn, h1, h2, h3, h4, h5, h6, h7⟩ := o.fn fe hf
    exact de_call0 h5 o.tk o.room (o.gi_ hg).1 h1 h2 h3 h6 h7 (o.gi_ hg).2
theorem se_callk {x : Str} {i : Nat} {es kes : List E} {ks : List Str} {pq : List Nat} {p1 q : Pos} {ps : List Expr} {kws : List Keyword} {fe : FE} (h : SEs B es ps) (hk : SK B kes kws) (hf : fe ∈ B.fn) (hx : fe.name = x) (hi : fe.i = i) (hw : (es.length, ks, pq) ∈ fe.kws) (hg : gi B x = true) (hn : noStar ps = true)
    (h0 : ps = [] → es = []) (hall : kws.all (fun q => q.arg.isSome) = true) (hks : kws.filterMap (·.arg) = ks) : SE B (.callk i es kes ks pq) (.Call (.Name x p1) ps kws q) :=
  se_plain rfl fun X ct Pg k W o => by
    subst hx hi
    obtain ⟨f, fd, prs, fn, h1, h2, h3, h4, h5, h6, h7⟩ := o.fn fe hf
    cases ps with
    | nil =>
      have e := h0 rfl
      subst e
      exact de_callk0 h5 o.tk o.room (o.gi_ hg).1 h1 h2 (h4 _ hw) h6 h7 (hk X ct Pg k W o) hall hks (o.gi_ hg).2
    | cons pa ps => exact de_callk h5 o.tk o.room (o.gi_ hg).1 h1 h2 (h4 _ hw) h6 h7 (h X ct Pg k W o) (hk X ct Pg k W o) hall hks (o.gi_ hg).2 hn
theorem se_bi {b : Bi} {x nm : Str} {ty : Bool} {id : String} {es : List E} {p1 q : Pos} {pa : Expr} {ps : List Expr} (hb : b.nm = some (nm, ty, id)) (hx : x = nm) (h : SEs B es (pa :: ps)) (hg : glb B x = true) (hn : noStar (pa :: ps) = true) : SE B (.bi b es) (.Call (.Name x p1) (pa :: ps) [] q) :=
  se_plain rfl fun X ct Pg k W o => by
    subst hx
    obtain ⟨g1, g2, g3, g4⟩ := o.glb_ hg
    obtain ⟨r, h1, h2⟩ := bi_ok (X := X) o.calm o.un hb
    have hv := bi_boot hb
    have e : ev (cxO Pg k) (.bi b es) = fun ρ => bnd (evs (cxO Pg k) es ρ) fun ds => look (b.ev ds) := by
      funext ρ
      show (bnd _ fun ds => lookD (b.ev ds)) = _
      simp only [lookD_eq]
    rw [e]
    cases ty with
    | false => exact de_callB h1 h2 g1 g2 hv (h X ct Pg k W o) g4 g3 hn
    | true => exact de_callTy h1 h2 g1 g2 hv (h X ct Pg k W o) g4 g3 hn
theorem se_fact {x : Str} {es : List E} {p1 q : Pos} {pa : Expr} {ps : List Expr} (h : SEs B es (pa :: ps)) (hi : (x, "math.factorial") ∈ B.im) (hg : gi B x = true) (hn : noStar (pa :: ps) = true) : SE B (.bi .factorial es) (.Call (.Name x p1) (pa :: ps) [] q) :=
  se_plain rfl fun X ct Pg k W o => by
    have e : ev (cxO Pg k) (.bi .factorial es) = fun ρ => bnd (evs (cxO Pg k) es ρ) fun ds => look (Bi.factorial.ev ds) := by
      funext ρ
      show (bnd _ fun ds => lookD _) = _
      simp only [lookD_eq]
    rw [e]
    exact de_callGB call_fact bi_fact (o.gi_ hg).1 (o.im _ hi) (h X ct Pg k W o) (o.gi_ hg).2 hn
theorem se_maxd {x kn : Str} {a b : E} {p1 p2 q : Pos} {pa pb : Expr} (hx : x = "max") (hkn : kn = "default") (ha : SE B a pa) (hb : SE B b pb) (hg : glb B x = true) (hn : noStar [pa] = true) (hsa : a.isStar = false) (hsb : b.isStar = false) :
    SE B (.bi .maxd [a, b]) (.Call (.Name x p1) [pa] [⟨some kn, pb, p2⟩] q) :=
  se_plain rfl fun X ct Pg k W o => by
    subst hx hkn
    obtain ⟨g1, g2, g3, g4⟩ := o.glb_ hg
    have e : ev (cxO Pg k) (.bi .maxd [a, b]) = fun ρ => bnd (ev (cxO Pg k) a ρ) fun x => bnd (ev (cxO Pg k) b ρ) fun y => look (Bi.maxd.ev [x, y]) := by
      funext ρ
      show (bnd (evs (cxO Pg k) [a, b] ρ) fun ds => lookD _) = _
      simp only [lookD_eq]
      rw [evs_cons hsa, evs_cons hsb]
      show bnd (bnd (ev (cxO Pg k) a ρ) fun x => bnd (bnd (ev (cxO Pg k) b ρ) fun y => bnd (ret []) fun xs => ret (y :: xs)) fun xs => ret (x :: xs)) (fun ds => look (Bi.maxd.ev ds)) = _
      rw [bnd_assoc]
      congr 1
      funext x
      rw [bnd_assoc, bnd_assoc]
      rfl
    rw [e]
    exact de_maxd o.calm o.un g1 g2 (ha X ct Pg k W o).1 (hb X ct Pg k W o).1 hn
theorem se_isi {x : Str} {e : E} {ts : List Ty} {pe pt : Expr} {p1 q : Pos} (hx : x = "isinstance") (he : SE B e pe) (hg : glb B x = true) (hn : noStar [pe] = true) (ht : (∃ t, ts = [t] ∧ tyChk B [t] [pt] = true) ∨ ∃ ps n p3, pt = .Tuple ps n p3 ∧ tyChk B ts ps = true ∧ ps.length ≤ 100) :
    SE B (.isi e ts) (.Call (.Name x p1) [pe, pt] [] q) :=
  se_plain rfl fun X ct Pg k W o => by
    subst hx
    obtain ⟨g1, g2, g3, g4⟩ := o.glb_ hg
    have e' : ev (cxO Pg k) (.isi e ts) = fun ρ => bnd (ev (cxO Pg k) e ρ) fun x => bnd (look (tyOf x)) fun u => ret (.bl (ts.any fun w => u.sub w)) := by
      funext ρ
      show (bnd _ fun x => bnd _ fun u => retD _) = _
      simp only [retD_eq]
    rw [e']
    have hse : notStarE pe = true := by cases pe <;> first | rfl | (simp [noStar] at hn)
    have hst : ∀ pt', starEach [pe, pt'] X.env = (false, eval pe X.env) :: starEach [pt'] X.env := fun pt' => notStar_cons hse
    rcases ht with ⟨t, rfl, h⟩ | ⟨ps, n, p3, rfl, h, hl⟩
    · obtain ⟨Ts, e1, e2, h5⟩ := tyChk_ok o h
      match Ts, e1, e2, h5 with
      | [(y, t', p')], e1, e2, h5 =>
        cases e1
        cases e2
        obtain ⟨q1, q2, q3, q4, q5⟩ := h5 _ List.mem_cons_self
        exact de_isi g1 g2 q1 q2 q3 q4 q5 (he X ct Pg k W o).1 (hst _)
      | [], e1, _, _ => cases e1
      | _ :: _ :: _, e1, _, _ => cases e1
    · obtain ⟨Ts, e1, e2, h5⟩ := tyChk_ok o h
      subst e1 e2
      exact de_isiT g1 g2 h5 (by simpa using hl) (he X ct Pg k W o).1 (hst _)
theorem se_mth {m : Mt} {a : E} {es : List E} {po pa : Expr} {ps : List Expr} {nm : Str} {p1 p2 : Pos} (hm : m.nm.2 = true) (hx : nm = m.nm.1) (ho : SE B a po) (h : SEs B es (pa :: ps)) (hc : notCall po = true) (hl : (p1.endLine == p2.line) = true) (hn : noStar (pa :: ps) = true) (hlen : decide ((pa :: ps).length + 0 + 0 < 30) = true) :
    SE B (.mth m a es) (.Call (.Attribute po nm p1) (pa :: ps) [] p2) :=
  se_plain rfl fun X ct Pg k W o => by
    subst hx
    obtain ⟨id, r, h1, h2, h3, h4⟩ := mt_ok1 (X := X) hm
    exact de_mth h1 h2 h3 h4 (ho X ct Pg k W o).1 (h X ct Pg k W o) (base_of hc) hl hn hlen
theorem se_mth0 {m : Mt} {a : E} {po : Expr} {nm : Str} {p1 p2 : Pos} (hm : m.nm.2 = false) (hx : nm = m.nm.1) (ho : SE B a po) (hc : notCall po = true) (hl : (p1.endLine == p2.line) = true) : SE B (.mth m a []) (.Call (.Attribute po nm p1) [] [] p2) :=
  se_plain rfl fun X ct Pg k W o => by
    subst hx
    obtain ⟨id, r, h1, h2, h3, h4⟩ := mt_ok0 (X := X) hm
    exact de_mth0 h1 h2 h3 h4 (ho X ct Pg k W o).1 (base_of hc) hl
theorem se_ix {a b : E} {pa pb : Expr} {q : Pos} (ha : SE B a pa) (hb : SE B b pb) (hs : notSlice pb = true) : SE B (.ix a b) (.Subscript pa pb q) := se_plain rfl fun X ct Pg k W o => de_ix (ha X ct Pg k W o).1 (hb X ct Pg k W o).1 (plainIx_of hs)
theorem se_slc {a : E} {lo hi : Option E} {pa : Expr} {pl ph : Option Expr} {p2 q : Pos} (ha : SE B a pa) (hl : SO B lo pl) (hh : SO B hi ph) : SE B (.slc a lo hi) (.Subscript pa (.Slice pl ph none p2) q) := se_plain rfl fun X ct Pg k W o => by
  have e : ev (cxO Pg k) (.slc a lo hi) = fun ρ => bnd (ev (cxO Pg k) a ρ) fun x => bnd (evo (cxO Pg k) lo ρ) fun l => bnd (evo (cxO Pg k) hi ρ) fun h => look (slcD x l h) := by
    funext ρ
    show (bnd _ fun x => bnd _ fun l => bnd _ fun h => lookD _) = _
    simp only [lookD_eq]
  rw [e]
  exact de_slc (ha X ct Pg k W o).1 (hl X ct Pg k W o) (hh X ct Pg k W o)
theorem se_nope {p : Expr} : SE B .nope p := fun X ct Pg k W o => ⟨⟨fun _ _ _ _ _ _ ⟨_, _, _, _, h⟩ => h.elim⟩, ⟨fun _ _ _ _ _ _ ⟨_, _, _, _, h⟩ => h.elim⟩⟩
end
end Mini

set_option maxHeartbeats 4000000
/-! MINI, part 26: the check of expressions, its recursion. -/
namespace Mini
open PySem PySem.Spec PyProof.Rows L2
section
variable {B : Tb}
theorem ses_nil : SEs B [] [] := fun X ct Pg k W o => da_nil
theorem ses_cons {a : E} {es : List E} {p : Expr} {ps : List Expr} (ha : SE B a p) (h : SEs B es ps) (hs : a.isStar = false) (hp : notStarE p = true) : SEs B (a :: es) (p :: ps) := fun X ct Pg k W o => by
  rw [evs_cons hs]
  exact da_cons (ha X ct Pg k W o).1 (h X ct Pg k W o) (notStar_cons hp)
theorem ses_star {a : E} {es : List E} {p : Expr} {ps : List Expr} {q : Pos} (ha : SE B a p) (h : SEs B es ps) : SEs B (.star a :: es) (.Starred p q :: ps) := fun X ct Pg k W o => da_star (ha X ct Pg k W o).1 (h X ct Pg k W o)
theorem sk_nil : SK B [] [] := fun X ct Pg k W o => dk_nil
theorem sk_cons {a : E} {es : List E} {nm : Option Str} {p : Expr} {q : Pos} {ks : List Keyword} (ha : SE B a p) (h : SK B es ks) (hs : a.isStar = false) : SK B (a :: es) (⟨nm, p, q⟩ :: ks) := fun X ct Pg k W o => by
  rw [evs_cons hs]
  exact dk_cons (ha X ct Pg k W o).1 (h X ct Pg k W o)
theorem so_none : SO B none none := fun X ct Pg k W o => do_none
theorem so_some {a : E} {p : Expr} (ha : SE B a p) : SO B (some a) (some p) := fun X ct Pg k W o => do_some (ha X ct Pg k W o).1
theorem sts_nil : STs B [] [] := fun X ct Pg k W o => dts_nil
theorem sts_one {a : E} {p : Expr} (ha : SE B a p) : STs B [a] [p] := fun X ct Pg k W o => by
  rw [evIfs_one]
  exact dts_one (ha X ct Pg k W o).2
theorem sf_disp {es : List E} {ps : List Expr} {q : Pos} (h : SEs B es ps) : SF B (.disp es) (.List ps q) := fun X ct Pg k W o => df_disp (h X ct Pg k W o)
theorem sf_listOf {x : Str} {a : E} {pa : Expr} {p1 q : Pos} (hx : x = "list") (ha : SE B a pa) (hg : glb B x = true) (hn : noStar [pa] = true) : SF B (.listOf a) (.Call (.Name x p1) [pa] [] q) := fun X ct Pg k W o => by
  subst hx
  obtain ⟨g1, g2, g3, g4⟩ := o.glb_ hg
  have e : evF (cxO Pg k) (.listOf a) = fun ρ => bnd (ev (cxO Pg k) a ρ) fun x => bnd (look (seqOf x)) fun xs => ret (.l xs) := by
    funext ρ
    rw [evF]
    simp only [retE_eq]
    rfl
  rw [e]
  exact df_listOf g1 g2 (ha X ct Pg k W o).1 hn
theorem sf_cat {a b : E} {pa pb : Expr} {q : Pos} (ha : SE B a pa) (hb : SE B b pb) : SF B (.cat a b) (.BinOp pa .Add pb q) := fun X ct Pg k W o => by
  have e : evF (cxO Pg k) (.cat a b) = fun ρ => bnd (ev (cxO Pg k) a ρ) fun x => bnd (ev (cxO Pg k) b ρ) fun y => bnd (look (lstOf x)) fun xs => bnd (look (lstOf y)) fun ys => if xs.length + ys.length ≤ line then ret (.l (xs ++ ys)) else bad := by
    funext ρ
    rw [evF]
    simp only [retE_eq]
    rfl
  rw [e]
  exact df_cat (ha X ct Pg k W o).1 (hb X ct Pg k W o).1
theorem sf_rep {a b : E} {pa pb : Expr} {q : Pos} (ha : SE B a pa) (hb : SE B b pb) : SF B (.rep a b) (.BinOp pa .Mult pb q) := fun X ct Pg k W o => by
  have e : evF (cxO Pg k) (.rep a b) = fun ρ => bnd (ev (cxO Pg k) a ρ) fun x => bnd (ev (cxO Pg k) b ρ) fun y => bnd (look (lstOf x)) fun xs => bnd (lift (asInt y)) fun k =>
      if -1000000000 < k ∧ k < 1000000000 ∧ xs.length * k.toNat ≤ line then ret (.l (repL xs k.toNat)) else bad := by
    funext ρ
    rw [evF]
    simp only [retE_eq]
    rfl
  rw [e]
  exact df_rep (ha X ct Pg k W o).1 (hb X ct Pg k W o).1
theorem sf_slice {a : E} {lo hi : Option E} {pa : Expr} {pl ph : Option Expr} {p2 q : Pos} (ha : SE B a pa) (hl : SO B lo pl) (hh : SO B hi ph) : SF B (.slice a lo hi) (.Subscript pa (.Slice pl ph none p2) q) := fun X ct Pg k W o => by
  have e : evF (cxO Pg k) (.slice a lo hi) = fun ρ => bnd (ev (cxO Pg k) a ρ) fun x => bnd (evo (cxO Pg k) lo ρ) fun l => bnd (evo (cxO Pg k) hi ρ) fun h => bnd (look (slcOf x)) fun xs => ret (.l (cut xs l h)) := by
    funext ρ
    rw [evF]
    simp only [retE_eq]
    rfl
  rw [e]
  exact df_slice (ha X ct Pg k W o).1 (hl X ct Pg k W o) (hh X ct Pg k W o)
theorem sf_lc {own : List Nat} {elt : E} {t : T} {it : I} {ifs : List E} {pelt ptg pit : Expr} {pifs : List Expr} {scope : Scope} {q : Pos} (hi : SI B it ptg pit) (hb : blkP B.N B.sc scope (ownL B.N own) = true) (hv : ∀ i ∈ t.vars, i ∈ own)
    (hg : ST (B.blk scope) t ptg) (ht : STs (B.blk scope) ifs pifs) (he : SE (B.blk scope) elt pelt) (hs : notSet pit = true) : SF B (.lc own elt t it ifs []) (.ListComp pelt [⟨ptg, pit, pifs, 0⟩] scope q) := fun X ct Pg k W o => by
  have := df_lc (X := X) (ct := ct) (W := W) (W2 := fun _ _ _ _ => False) (t := t) (mi := evI (cxO Pg k) it) (mt := evIfs (cxO Pg k) ifs) (me := ev (cxO Pg k) elt) (own := ownL B.N own) (scope := scope) (pos := q) o.calm o.nd (hi X ct Pg k W o) (by rw [o.N, o.sc]; exact blkP_ok hb) (by rw [ownL_snd]; exact hv)
    (fun s H C cl fp => hg _ ct Pg k _ (o.blk scope s H C cl fp)) (fun s H C cl fp => ht _ ct Pg k _ (o.blk scope s H C cl fp)) (fun s H C cl fp => (he _ ct Pg k _ (o.blk scope s H C cl fp)).1) (notSet_ok hs _)
  rw [ownL_snd] at this
  exact this
theorem sf_lc2 {own own1 : List Nat} {elt : E} {t t1 : T} {it it1 : I} {ifs ifs1 : List E} {pelt ptg pit ptg1 pit1 : Expr} {pifs pifs1 : List Expr} {scope : Scope} {q : Pos} (hi : SI B it ptg pit) (hb : blkP B.N B.sc scope (ownL B.N own) = true) (hvs : ∀ i ∈ own1, i ∈ own) (hv : ∀ i ∈ t.vars, i ∈ own) (hv1 : ∀ i ∈ t1.vars, i ∈ own1)
    (hg : ST (B.blk scope) t ptg) (ht : STs (B.blk scope) ifs pifs) (hi1 : SI (B.blk scope) it1 ptg1 pit1) (hg1 : ST (B.blk scope) t1 ptg1) (ht1 : STs (B.blk scope) ifs1 pifs1) (he : SE (B.blk scope) elt pelt) (hs : notSet pit = true) (hs1 : notSet pit1 = true) :
    SF B (.lc own elt t it ifs [.mk own1 t1 it1 ifs1]) (.ListComp pelt [⟨ptg, pit, pifs, 0⟩, ⟨ptg1, pit1, pifs1, 0⟩] scope q) := fun X ct Pg k W o => by
  have := df_lc2 (X := X) (ct := ct) (W := W) (W2 := fun _ _ _ _ => False) (t := t) (t1 := t1) (vs1 := own1) (mi := evI (cxO Pg k) it) (mi1 := evI (cxO Pg k) it1) (mt := evIfs (cxO Pg k) ifs) (mt1 := evIfs (cxO Pg k) ifs1) (me := ev (cxO Pg k) elt) (own := ownL B.N own) (scope := scope) (pos := q) o.calm o.nd (hi X ct Pg k W o) (by rw [o.N, o.sc]; exact blkP_ok hb)
    (by rw [ownL_snd]; exact hvs) (by rw [ownL_snd]; exact hv) hv1
    (fun s H C cl fp => hg _ ct Pg k _ (o.blk scope s H C cl fp)) (fun s H C cl fp => ht _ ct Pg k _ (o.blk scope s H C cl fp)) (fun s H C cl fp => hi1 _ ct Pg k _ (o.blk scope s H C cl fp)) (fun s H C cl fp => hg1 _ ct Pg k _ (o.blk scope s H C cl fp))
    (fun s H C cl fp => ht1 _ ct Pg k _ (o.blk scope s H C cl fp)) (fun s H C cl fp => (he _ ct Pg k _ (o.blk scope s H C cl fp)).1) (notSet_ok hs _) (notSet_ok hs1)
  rw [ownL_snd] at this
  exact this
theorem sf_dict0 {q : Pos} : SF B (.ddisp [] []) (.Dict [] [] q) := fun X ct Pg k W o => by
  refine L2.PE.imp pe_dnewK fun σ H Q ⟨g, ρ, S, r, h⟩ => ?_
  intro p hp
  have al := r.self.laid hp (.dK [])
  exact h _ g (.ref p) al ⟨p, rfl, hp, r.ok.fresh_F hp, r.ok.fresh_mu hp, .dK [], [], upd_same, trivial, .inl ⟨[], rfl, rfl, rfl⟩, reps_nil⟩
theorem si_seq {e : E} {tg p : Expr} (h : SE B e p) : SI B (.seq e) tg p := fun X ct Pg k W o => di_seq (h X ct Pg k W o).1
theorem si_range1 {x : Str} {a : E} {tg pa : Expr} {p1 q : Pos} (hx : x = "range") (ha : SE B a pa) (hg : glb B x = true) (hn : noStar [pa] = true) : SI B (.range1 a) tg (.Call (.Name x p1) [pa] [] q) := fun X ct Pg k W o => by
  subst hx
  obtain ⟨g1, g2, g3, g4⟩ := o.glb_ hg
  have e : evI (cxO Pg k) (.range1 a) = fun ρ => bnd (ev (cxO Pg k) a ρ) fun x => bnd (lift (asInt x)) fun j => if rangeOk j then ret (rangeL 0 j) else bad := by
    funext ρ
    rw [evI]
    simp only [retL_eq]
  rw [e]
  exact di_range1 g1 g2 (ha X ct Pg k W o).1 hn
theorem si_range2 {x : Str} {a b : E} {tg pa pb : Expr} {p1 q : Pos} (hx : x = "range") (ha : SE B a pa) (hb : SE B b pb) (hg : glb B x = true) (hn : noStar [pa, pb] = true) : SI B (.range2 a b) tg (.Call (.Name x p1) [pa, pb] [] q) := fun X ct Pg k W o => by
  subst hx
  obtain ⟨g1, g2, g3, g4⟩ := o.glb_ hg
  have e : evI (cxO Pg k) (.range2 a b) = fun ρ => bnd (ev (cxO Pg k) a ρ) fun x => bnd (ev (cxO Pg k) b ρ) fun y => bnd (lift (asInt x)) fun i => bnd (lift (asInt y)) fun j => if rangeOk i && rangeOk j then ret (rangeL i j) else bad := by
    funext ρ
    rw [evI]
    simp only [retL_eq]
  rw [e]
  exact di_range2 g1 g2 (ha X ct Pg k W o).1 (hb X ct Pg k W o).1 hn
theorem si_enum {x : Str} {a : E} {elts : List Expr} {kk : Nat} {tpos : Pos} {pa : Expr} {p1 q : Pos} (hx : x = "enumerate") (ha : SE B a pa) (hg : glb B x = true) (hn : noStar [pa] = true) : SI B (.enum a) (.Tuple elts kk tpos) (.Call (.Name x p1) [pa] [] q) := fun X ct Pg k W o => by
  subst hx
  obtain ⟨g1, g2, g3, g4⟩ := o.glb_ hg
  exact di_enum g1 g2 (ha X ct Pg k W o).1 hn
end
def feAt (B : Tb) (x : Str) (i : Nat) : Option FE := B.fn.find? fun q => decide (q.name = x) && decide (q.i = i)
theorem feAt_ok {B : Tb} {x : Str} {i : Nat} {q : FE} (h : feAt B x i = some q) : q ∈ B.fn ∧ q.name = x ∧ q.i = i := by
  have h1 := List.mem_of_find?_eq_some h
  have h2 := List.find?_some h
  simp only [Bool.and_eq_true, decide_eq_true_eq] at h2
  exact ⟨h1, h2.1, h2.2⟩
def tupOf : Expr → Option (List Expr)
  | .Tuple ps _ _ => some ps
  | _ => none
theorem tupOf_ok {p : Expr} {ps : List Expr} (h : tupOf p = some ps) : ∃ n q, p = .Tuple ps n q := by
  cases p <;> first | (cases h; exact ⟨_, _, rfl⟩) | cases h
mutual
def ckE : (e : E) → (B : Tb) → (p : Expr) → Option (Pf (SE B e p))
  | .var i, B, p => match p with
    | .Name x _ => if h : B.N[i]? = some x ∧ vis B x = true then some ⟨se_var h.1 h.2⟩ else none
    | _ => none
  | .k d, B, p => if h : chkK d p = true then some ⟨se_k h⟩ else none
  | .glob y d, B, p => none
  | .tup es, B, p => match p with
    | .Tuple ps _ _ => match ckEs es B ps with
      | some q => some ⟨se_tup q.pf⟩
      | none => none
    | _ => none
  | .dct0, B, p => match p with
    | .Dict ks vs _ => match ks, vs with
      | [], [] => some ⟨se_dct0⟩
      | _, _ => none
    | _ => none
  | .new m f, B, p => match ckF f B p with
    | some q => if h : plainT p = true then some ⟨se_new h q.pf⟩ else none
    | none => none
  | .bin op a b, B, p => match p with
    | .BinOp pa po pb _ => match ckE a B pa, ckE b B pb with
      | some qa, some qb => if h : po = op.py then some ⟨by subst h; exact se_bin qa.pf qb.pf⟩ else none
      | _, _ => none
    | _ => none
  | .neg a, B, p => match p with
    | .UnaryOp .USub pa _ => match ckE a B pa with
      | some qa => some ⟨se_neg qa.pf⟩
      | none => none
    | _ => none
  | .cmp op a b, B, p => match p with
    | .Compare pa [po] [pb] _ => match ckE a B pa, ckE b B pb with
      | some qa, some qb => if h : po = op.py ∧ behindInMarks op.py pb = false then some ⟨by obtain ⟨h1, h2⟩ := h; subst h1; exact se_cmp qa.pf qb.pf h2⟩ else none
      | _, _ => none
    | _ => none
  | .chain o1 o2 a b c, B, p => match p with
    | .Compare pa [po1, po2] [pb, pc] _ => match ckE a B pa, ckE b B pb, ckE c B pc with
      | some qa, some qb, some qc => if h : (po1 = o1.py ∧ po2 = o2.py) ∧ lastMarks [o1.py, o2.py] [pb, pc] = false then some ⟨by obtain ⟨⟨h1, h2⟩, h3⟩ := h; subst h1 h2; exact se_chain qa.pf qb.pf qc.pf h3⟩ else none
      | _, _, _ => none
    | _ => none
  | .and es, B, p => match p with
    | .BoolOp .And ps _ => match ckAnd es B ps with
      | some q => some ⟨se_boo (fun _ => rfl) q.pf⟩
      | none => none
    | _ => none
  | .or es, B, p => match p with
    | .BoolOp .Or ps _ => match ckOr es B ps with
      | some q => some ⟨se_boo (fun _ => rfl) q.pf⟩
      | none => none
    | _ => none
  | .not a, B, p => match p with
    | .UnaryOp .Not pa _ => match ckE a B pa with
      | some qa => some ⟨se_not qa.pf⟩
      | none => none
    | _ => none
  | .ite c a b, B, p => match p with
    | .IfExp pc pa pb _ => match ckE c B pc, ckE a B pa, ckE b B pb with
      | some qc, some qa, some qb => some ⟨se_ite qc.pf qa.pf qb.pf⟩
      | _, _, _ => none
    | _ => none
  | .call i es, B, p => match p with
    | .Call (.Name x _) (pa :: ps) [] _ => match ckEs es B (pa :: ps) with
      | some q => match hf : feAt B x i with
        | some fe => if h : gi B x = true ∧ noStar (pa :: ps) = true then some ⟨se_call q.pf (feAt_ok hf).1 (feAt_ok hf).2.1 (feAt_ok hf).2.2 h.1 h.2⟩ else none
        | none => none
      | none => none
    | .Call (.Name x _) [] [] _ => match hf : feAt B x i with
      | some fe => if h : gi B x = true ∧ es = [] then some ⟨by obtain ⟨h1, h2⟩ := h; subst h2; exact se_call0 (feAt_ok hf).1 (feAt_ok hf).2.1 (feAt_ok hf).2.2 h1⟩ else none
      | none => none
    | _ => none
  | .callk i es kes ks pq, B, p => match p with
    | .Call (.Name x _) ps kws _ => match ckEs es B ps, ckKs kes B kws with
      | some q, some qk => match hf : feAt B x i with
        | some fe => if h : (gi B x = true ∧ noStar ps = true) ∧ (es.length, ks, pq) ∈ fe.kws ∧ (ps = [] → es = []) ∧ kws.all (fun q => q.arg.isSome) = true ∧ kws.filterMap (·.arg) = ks then
            some ⟨se_callk q.pf qk.pf (feAt_ok hf).1 (feAt_ok hf).2.1 (feAt_ok hf).2.2 h.2.1 h.1.1 h.1.2 h.2.2.1 h.2.2.2.1 h.2.2.2.2⟩ else none
        | none => none
      | _, _ => none
    | _ => none
  | .isi e ts, B, p => match p with
    | .Call (.Name x _) [pe, pt] [] _ => match ckE e B pe with
      | some q => if h : x = "isinstance" ∧ glb B x = true ∧ noStar [pe] = true then
          match ts with
          | [t] => if h2 : tyChk B [t] [pt] = true then some ⟨se_isi h.1 q.pf h.2.1 h.2.2 (.inl ⟨t, rfl, h2⟩)⟩ else none
          | ts => match ht : tupOf pt with
            | some ps => if h2 : tyChk B ts ps = true ∧ ps.length ≤ 100 then some ⟨by obtain ⟨n, q3, e3⟩ := tupOf_ok ht; exact se_isi h.1 q.pf h.2.1 h.2.2 (.inr ⟨ps, n, q3, e3, h2.1, h2.2⟩)⟩ else none
            | none => none
        else none
      | none => none
    | _ => none
  | .bi b es, B, p => match p with
    | .Call (.Name x _) (pa :: ps) [] _ => match ckEs es B (pa :: ps) with
      | some q => match hb : b.nm with
        | some (nm, ty, id) => if h : x = nm ∧ glb B x = true ∧ noStar (pa :: ps) = true then some ⟨se_bi hb h.1 q.pf h.2.1 h.2.2⟩ else none
        | none => match b with
          | .factorial => if h : (x, "math.factorial") ∈ B.im ∧ gi B x = true ∧ noStar (pa :: ps) = true then some ⟨se_fact q.pf h.1 h.2.1 h.2.2⟩ else none
          | _ => none
      | none => none
    | .Call (.Name x _) [pa] [⟨some kn, pb, _⟩] _ => match b, es with
      | .maxd, [a, c] => match ckE a B pa, ckE c B pb with
        | some qa, some qb => if h : (x = "max" ∧ kn = "default") ∧ (glb B x = true ∧ noStar [pa] = true) ∧ a.isStar = false ∧ c.isStar = false then some ⟨se_maxd h.1.1 h.1.2 qa.pf qb.pf h.2.1.1 h.2.1.2 h.2.2.1 h.2.2.2⟩ else none
        | _, _ => none
      | _, _ => none
    | _ => none
  | .mth m a es, B, p => match p with
    | .Call (.Attribute po nm p1) (pa :: ps) [] p2 => match ckE a B po, ckEs es B (pa :: ps) with
      | some qa, some q => if h : (m.nm.2 = true ∧ nm = m.nm.1) ∧ notCall po = true ∧ (p1.endLine == p2.line) = true ∧ noStar (pa :: ps) = true ∧ decide ((pa :: ps).length + 0 + 0 < 30) = true then
          some ⟨se_mth h.1.1 h.1.2 qa.pf q.pf h.2.1 h.2.2.1 h.2.2.2.1 h.2.2.2.2⟩ else none
      | _, _ => none
    | .Call (.Attribute po nm p1) [] [] p2 => match ckE a B po with
      | some qa => if h : (m.nm.2 = false ∧ nm = m.nm.1) ∧ notCall po = true ∧ (p1.endLine == p2.line) = true ∧ es = [] then
          some ⟨by obtain ⟨h1, h2, h3, h4⟩ := h; subst h4; exact se_mth0 h1.1 h1.2 qa.pf h2 h3⟩ else none
      | none => none
    | _ => none
  | .ix a b, B, p => match p with
    | .Subscript pa pb _ => match ckE a B pa, ckE b B pb with
      | some qa, some qb => if h : notSlice pb = true then some ⟨se_ix qa.pf qb.pf h⟩ else none
      | _, _ => none
    | _ => none
  | .slc a lo hi, B, p => match p with
    | .Subscript pa (.Slice pl ph none _) _ => match ckE a B pa, ckO lo B pl, ckO hi B ph with
      | some qa, some ql, some qh => some ⟨se_slc qa.pf ql.pf qh.pf⟩
      | _, _, _ => none
    | _ => none
  | .exf _ _, B, p => none
  | .star _, B, p => none
  | .nope, B, p => some ⟨se_nope⟩
def ckEs : (es : List E) → (B : Tb) → (ps : List Expr) → Option (Pf (SEs B es ps))
  | [], B, ps => match ps with
    | [] => some ⟨ses_nil⟩
    | _ => none
  | .star a :: es, B, ps => match ps with
    | .Starred p _ :: ps => match ckE a B p, ckEs es B ps with
      | some qa, some q => some ⟨ses_star qa.pf q.pf⟩
      | _, _ => none
    | _ => none
  | a :: es, B, ps => match ps with
    | p :: ps => match ckE a B p, ckEs es B ps with
      | some qa, some q => if h : a.isStar = false ∧ notStarE p = true then some ⟨ses_cons qa.pf q.pf h.1 h.2⟩ else none
      | _, _ => none
    | _ => none
def ckKs : (es : List E) → (B : Tb) → (ks : List Keyword) → Option (Pf (SK B es ks))
  | [], B, ks => match ks with
    | [] => some ⟨sk_nil⟩
    | _ => none
  | a :: es, B, ks => match ks with
    | ⟨nm, p, _⟩ :: ks => match ckE a B p, ckKs es B ks with
      | some qa, some q => if h : a.isStar = false then some ⟨sk_cons qa.pf q.pf h⟩ else none
      | _, _ => none
    | _ => none
def ckO : (o : Option E) → (B : Tb) → (p : Option Expr) → Option (Pf (SO B o p))
  | none, B, p => match p with
    | none => some ⟨so_none⟩
    | _ => none
  | some a, B, p => match p with
    | some p => match ckE a B p with
      | some q => some ⟨so_some q.pf⟩
      | none => none
    | none => none
def ckAnd : (es : List E) → (B : Tb) → (ps : List Expr) → Option (Pf (SB B .And (fun cx ρ => evAnd cx es ρ) ps))
  | [], B, ps => none
  | a :: es, B, ps => match es, ps with
    | [], [p] => match ckE a B p with
      | some q => some ⟨sb_one q.pf (.inl rfl)⟩
      | none => none
    | e2 :: es, p :: p2 :: ps => match ckE a B p, ckAnd (e2 :: es) B (p2 :: ps) with
      | some qa, some q => some ⟨sb_and qa.pf q.pf⟩
      | _, _ => none
    | _, _ => none
def ckOr : (es : List E) → (B : Tb) → (ps : List Expr) → Option (Pf (SB B .Or (fun cx ρ => evOr cx es ρ) ps))
  | [], B, ps => none
  | a :: es, B, ps => match es, ps with
    | [], [p] => match ckE a B p with
      | some q => some ⟨sb_one q.pf (.inr rfl)⟩
      | none => none
    | e2 :: es, p :: p2 :: ps => match ckE a B p, ckOr (e2 :: es) B (p2 :: ps) with
      | some qa, some q => some ⟨sb_or qa.pf q.pf⟩
      | _, _ => none
    | _, _ => none
def ckIfs : (es : List E) → (B : Tb) → (ps : List Expr) → Option (Pf (STs B es ps))
  | [], B, ps => match ps with
    | [] => some ⟨sts_nil⟩
    | _ => none
  | [a], B, ps => match ps with
    | [p] => match ckE a B p with
      | some q => some ⟨sts_one q.pf⟩
      | none => none
    | _ => none
  | _ :: _ :: _, B, ps => none
def ckF : (f : F) → (B : Tb) → (p : Expr) → Option (Pf (SF B f p))
  | .disp es, B, p => match p with
    | .List ps _ => match ckEs es B ps with
      | some q => some ⟨sf_disp q.pf⟩
      | none => none
    | _ => none
  | .lc own elt t it ifs [], B, p => match p with
    | .ListComp pelt [⟨ptg, pit, pifs, 0⟩] scope _ => match ckI it B ptg pit, ckT t (B.blk scope) ptg, ckIfs ifs (B.blk scope) pifs, ckE elt (B.blk scope) pelt with
      | some q1, some q2, some q3, some q4 => if h : blkP B.N B.sc scope (ownL B.N own) = true ∧ (∀ i ∈ t.vars, i ∈ own) ∧ notSet pit = true then some ⟨sf_lc q1.pf h.1 h.2.1 q2.pf q3.pf q4.pf h.2.2⟩ else none
      | _, _, _, _ => none
    | _ => none
  | .lc own elt t it ifs [.mk own1 t1 it1 ifs1], B, p => match p with
    | .ListComp pelt [⟨ptg, pit, pifs, 0⟩, ⟨ptg1, pit1, pifs1, 0⟩] scope _ => match ckI it B ptg pit, ckT t (B.blk scope) ptg, ckIfs ifs (B.blk scope) pifs, ckE elt (B.blk scope) pelt, ckI it1 (B.blk scope) ptg1 pit1, ckT t1 (B.blk scope) ptg1, ckIfs ifs1 (B.blk scope) pifs1 with
      | some q1, some q2, some q3, some q4, some q5, some q6, some q7 => if h : (blkP B.N B.sc scope (ownL B.N own) = true ∧ (∀ i ∈ own1, i ∈ own)) ∧ ((∀ i ∈ t.vars, i ∈ own) ∧ (∀ i ∈ t1.vars, i ∈ own1)) ∧ notSet pit = true ∧ notSet pit1 = true then
          some ⟨sf_lc2 q1.pf h.1.1 h.1.2 h.2.1.1 h.2.1.2 q2.pf q3.pf q5.pf q6.pf q7.pf q4.pf h.2.2.1 h.2.2.2⟩ else none
      | _, _, _, _, _, _, _ => none
    | _ => none
  | .lc _ _ _ _ _ (_ :: _ :: _), B, p => none
  | .listOf a, B, p => match p with
    | .Call (.Name x _) [pa] [] _ => match ckE a B pa with
      | some q => if h : x = "list" ∧ glb B x = true ∧ noStar [pa] = true then some ⟨sf_listOf h.1 q.pf h.2.1 h.2.2⟩ else none
      | none => none
    | _ => none
  | .cat a b, B, p => match p with
    | .BinOp pa .Add pb _ => match ckE a B pa, ckE b B pb with
      | some qa, some qb => some ⟨sf_cat qa.pf qb.pf⟩
      | _, _ => none
    | _ => none
  | .rep a b, B, p => match p with
    | .BinOp pa .Mult pb _ => match ckE a B pa, ckE b B pb with
      | some qa, some qb => some ⟨sf_rep qa.pf qb.pf⟩
      | _, _ => none
    | _ => none
  | .slice a lo hi, B, p => match p with
    | .Subscript pa (.Slice pl ph none _) _ => match ckE a B pa, ckO lo B pl, ckO hi B ph with
      | some qa, some ql, some qh => some ⟨sf_slice qa.pf ql.pf qh.pf⟩
      | _, _, _ => none
    | _ => none
  | .ddisp ks vs, B, p => match ks, vs with
    | [], [] => match p with
      | .Dict [] [] _ => some ⟨sf_dict0⟩
      | _ => none
    | _, _ => none
def ckI : (i : I) → (B : Tb) → (tg p : Expr) → Option (Pf (SI B i tg p))
  | .seq e, B, tg, p => match ckE e B p with
    | some q => some ⟨si_seq q.pf⟩
    | none => none
  | .keys _, B, tg, p => none
  | .range1 a, B, tg, p => match p with
    | .Call (.Name x _) [pa] [] _ => match ckE a B pa with
      | some q => if h : x = "range" ∧ glb B x = true ∧ noStar [pa] = true then some ⟨si_range1 h.1 q.pf h.2.1 h.2.2⟩ else none
      | none => none
    | _ => none
  | .range2 a b, B, tg, p => match p with
    | .Call (.Name x _) [pa, pb] [] _ => match ckE a B pa, ckE b B pb with
      | some qa, some qb => if h : x = "range" ∧ glb B x = true ∧ noStar [pa, pb] = true then some ⟨si_range2 h.1 qa.pf qb.pf h.2.1 h.2.2⟩ else none
      | _, _ => none
    | _ => none
  | .enum a, B, tg, p => match tg with
    | .Tuple _ _ _ => match p with
      | .Call (.Name x _) [pa] [] _ => match ckE a B pa with
        | some q => if h : x = "enumerate" ∧ glb B x = true ∧ noStar [pa] = true then some ⟨si_enum h.1 q.pf h.2.1 h.2.2⟩ else none
        | none => none
      | _ => none
    | _ => none
  | .zip _ _, B, tg, p => none
end
end Mini

set_option maxHeartbeats 4000000
/-! MINI, part 27: a, b = x, y. -/
namespace Mini
open PySem PySem.Spec PyProof.Rows L2
def swA (k : ScopeKind) (ts vs : List Expr) : Bool := !(ts.length == 2 || ts.length == 3) || vs.length != ts.length || k != .function
def swB (vs : List Expr) : Bool := vs.any fun
  | .Starred .. => true
  | _ => false
def swL (sc : Scope) (ts : List Expr) : List Str := ts.filterMap fun
    | .Name id pos => if sc.names.lookup id == some .local && pos.line == (ts.head?.map (·.pos.line)).getD 0 then some id else none
    | _ => none
def swC (sc : Scope) (ts : List Expr) : Bool := (swL sc ts).length != ts.length || (swL sc ts).eraseDups.length != (swL sc ts).length
section
variable {ts vs : List Expr} {kt k2 : Nat} {pt pt2 : Pos} {env : PySem.Env}
theorem sw_none (h : swA env.blockKind ts vs = true ∨ swB vs = true ∨ swC env.scope ts = true ∨ vs.all (foldedForSure 8) = true) : swappedStores [.Tuple ts kt pt] (.Tuple vs k2 pt2) env = pure none := by
  unfold swappedStores
  dsimp only
  by_cases hA : swA env.blockKind ts vs = true
  · exact if_pos hA
  · refine (if_neg hA).trans ?_
    by_cases hB : swB vs = true
    · exact if_pos hB
    · refine (if_neg hB).trans ?_
      by_cases hC : swC env.scope ts = true
      · exact if_pos hC
      · refine (if_neg hC).trans ?_
        rcases h with h | h | h | h
        · exact absurd h hA
        · exact absurd h hB
        · exact absurd h hC
        · exact if_pos h
theorem sw_some (hA : swA env.blockKind ts vs = false) (hB : swB vs = false) (hC : swC env.scope ts = false) (hD : vs.all (foldedForSure 8) = false) (hE : vs.all (constantsAlone 8) = false) :
    swappedStores [.Tuple ts kt pt] (.Tuple vs k2 pt2) env = pure (some (swL env.scope ts)) := by
  unfold swappedStores
  dsimp only
  refine (if_neg (by rw [Bool.not_eq_true]; exact hA)).trans ?_
  refine (if_neg (by rw [Bool.not_eq_true]; exact hB)).trans ?_
  refine (if_neg (by rw [Bool.not_eq_true]; exact hC)).trans ?_
  refine (if_neg (by rw [Bool.not_eq_true]; exact hD)).trans ?_
  refine (if_neg (by rw [Bool.not_eq_true]; exact hE)).trans ?_
  rfl
end
def isTupE : Expr → Bool
  | .Tuple .. => true
  | _ => false
def isTL : Expr → Bool
  | .Tuple .. => true
  | .List .. => true
  | _ => false
theorem sw_plain {c a : Expr} {env : PySem.Env} (h : isTupE a = false ∨ isTL c = false) : swappedStores [c] a env = pure none := by
  rcases h with h | h
  · cases a <;> first | (simp [isTupE] at h; done) | (cases c <;> rfl)
  · cases c <;> first | (simp [isTL] at h; done) | (cases a <;> rfl)
/-- the check that the stores are not swapped -/
def swNo (sc : Scope) (c a : Expr) : Bool := match c, a with
  | .Tuple ts _ _, .Tuple vs _ _ => swA .function ts vs || (swB vs || (swC sc ts || vs.all (foldedForSure 8)))
  | .List _ _, .Tuple _ _ _ => false
  | _, _ => true
theorem swNo_ok {c a : Expr} {env : PySem.Env} (hk : env.blockKind = .function) (h : swNo env.scope c a = true) : swappedStores [c] a env = pure none := by
  unfold swNo at h
  split at h
  · simp only [Bool.or_eq_true] at h
    exact sw_none (by rw [hk]; exact h)
  · cases h
  · rename_i h1 h2
    refine sw_plain ?_
    cases c <;> first | exact .inr rfl | (cases a <;> first | exact .inl rfl | (exact (h1 _ _ _ _ _ _ rfl rfl).elim) | (exact (h2 _ _ _ _ _ rfl rfl).elim))
theorem swSole {c a : Expr} {n : Nat} {env : PySem.Env} (h : notComp a = true) : swapsWithSole [c] a n env = pure false := swaps_no h
/-! ### two places at once -/
/-- a value, or an object made since H -/
def SlR (K : Frag) (H : Hp) : Hp → Gh → V → Slot → Prop := fun H1 g1 v s => (∃ d, s = .val d ∧ Rep K H1 g1 v d) ∨ ∃ o, s = slotOf o ∧ RO K H H1 g1 v o
def TPv (K : Frag) (ct : CT) (W : WX) (m : Env → M Slot) : TE := fun σ H Q => ∃ g ρ S, Rel K g σ H ρ S ∧ Out K ct H g (fun c d H' => W c d σ H') (SlR K H) Q (m ρ S)
abbrev DP (X : L2.Cx) (ct : CT) (W : WX) (e : Expr) (m : Env → M Slot) : Prop := PE X e (TPv X.K ct W m)
section
variable {X : L2.Cx} {ct : CT} {W : WX} {P : Env → Prop} {a b : Expr} {ma : Env → M D} {mo : Env → M O} {m1 m2 : Env → M Slot}
theorem dp_val (h : DE X ct W a ma) : DP X ct W a (fun ρ => bnd (ma ρ) fun d => ret (.val d)) :=
  L2.PE.imp h fun σ H Q ⟨g, ρ, S, r, h⟩ => ⟨g, ρ, S, r, Out.last h fun H1 g1 v d S1 af rv h1 => h1 H1 g1 v af (.inl ⟨d, rfl, rv⟩)⟩
theorem dp_own (h : DF X ct W a mo) : DP X ct W a (fun ρ => bnd (mo ρ) fun o => ret (slotOf o)) :=
  L2.PE.imp h fun σ H Q ⟨g, ρ, S, r, h⟩ => ⟨g, ρ, S, r, Out.last h fun H1 g1 v o S1 af rv h1 => h1 H1 g1 v af (.inr ⟨o, rfl, rv⟩)⟩
theorem SlR.ext {K : Frag} {H H1 H2 : Hp} {g1 g2 : Gh} {v : V} {s : Slot} (h : SlR K H H1 g1 v s) (e : Ext H1 g1 H2 g2) (ok : Gok H1 g1) : SlR K H H2 g2 v s := by
  rcases h with ⟨d, rfl, r⟩ | ⟨o, rfl, p, rfl, hp, nf, nm, ro⟩
  · exact .inl ⟨d, rfl, r.ext e ok⟩
  · refine .inr ⟨o, rfl, p, rfl, hp, ?_, ?_, ?_⟩
    · intro f
      rcases e.new p f with q | q
      · exact nf q
      · cases o with
        | l ds => obtain ⟨xs, h1, _⟩ := ro; rw [h1] at q; cases q
        | d ks ds => obtain ⟨ob, xs, h1, _⟩ := ro; rw [h1] at q; cases q
    · intro m
      obtain ⟨l, el, n⟩ := e.mu
      rw [el] at m
      rcases List.mem_append.mp m with q | q
      · exact nm q
      · have z := n p q
        cases o with
        | l ds => obtain ⟨xs, h1, _⟩ := ro; rw [h1] at z; cases z
        | d ks ds => obtain ⟨ob, xs, h1, _⟩ := ro; rw [h1] at z; cases z
    · cases o with
      | l ds => obtain ⟨xs, h1, h2⟩ := ro; exact ⟨xs, e.keep p _ h1 nm, h2.ext e ok⟩
      | d ks ds => obtain ⟨ob, xs, h1, h3, h4, h2⟩ := ro; exact ⟨ob, xs, e.keep p _ h1 nm, h3, h4, h2.ext e ok⟩
/-- a slot is given what was made since Hb -/
theorem RelS.giveS {K : Frag} {H₀ Hb H2 : Hp} {g₀ g2 : Gh} {σ : St} {ρ : Env} {S2 : Store} (r : RelS K H₀ g₀ g2 σ H2 ρ S2) {v : V} {s : Slot} (h : SlR K Hb H2 g2 v s) (hb : ∀ p, Hb p = none → H₀ p = none) (ho : ∀ k a, ownAt σ ρ k a → ∃ o, Hb a = some o) (i : Nat) :
    RelS K H₀ g₀ g2 (σ.set i (some v)) H2 (ρ.set i s) S2 := by
  rcases h with ⟨d, rfl, rv⟩ | ⟨o, rfl, p, rfl, hp, nf, nm, ro⟩
  · exact r.put rv
  · refine r.set ?_ fun _ q e => by
      cases e
      exact ⟨hb p hp, fun k _ hk => by obtain ⟨u, hu⟩ := ho k p hk; rw [hp] at hu; cases hu⟩
    cases o with
    | l ds => obtain ⟨xs, h1, h2⟩ := ro; exact ⟨p, xs, rfl, h1, nf, nm, h2⟩
    | d ks ds => obtain ⟨ob, xs, h1, mo, h3, h2⟩ := ro; exact ⟨p, ob, xs, rfl, h1, mo, nf, nm, h3, h2⟩
theorem own_set {σ : St} {ρ : Env} {i k : Nat} {s : Slot} {v : Option V} {a : Addr} (h : ownAt (σ.set i v) (ρ.set i s) k a) : ownAt σ ρ k a ∨ (s.isOwn = true ∧ v = some (.ref a)) := by
  rw [ownAt_iff] at h ⊢
  obtain ⟨⟨t, h1, h2⟩, h3⟩ := h
  by_cases e : k = i
  · subst e
    have l1 := (List.getElem?_eq_some_iff.mp h1).1
    have l2 := (List.getElem?_eq_some_iff.mp h3).1
    rw [List.length_set] at l1 l2
    rw [List.getElem?_set_self l1] at h1
    rw [List.getElem?_set_self l2] at h3
    cases h1
    exact .inr ⟨h2, Option.some.inj h3⟩
  · rw [List.getElem?_set_ne (Ne.symm e)] at h1 h3
    exact .inl ⟨⟨t, h1, h2⟩, h3⟩
theorem ds_par2 {i j : Nat} {x y : Str} {px py pt pt2 pos : Pos} {kt k2 : Nat} (hP : ∀ ρ, P ρ) (hc : X.calm = true) (hN : X.N.Nodup) (hi : X.N[i]? = some x) (hj : X.N[j]? = some y) (hij : i ≠ j)
    (hx : X.env.scope.names.lookup x = some .local) (hy : X.env.scope.names.lookup y = some .local) (ha : DP X ct W a m1) (hb : DP X ct W b m2) (hna : notStarE a = true) (hnb : notStarE b = true)
    (hw : swappedStores [.Tuple [.Name x px, .Name y py] kt pt] (.Tuple [a, b] k2 pt2) X.env = pure (some [x, y])) :
    DS X ct W P (.Assign [.Tuple [.Name x px, .Name y py] kt pt] (.Tuple [a, b] k2 pt2) pos) (fun ρ => bnd (bnd (m1 ρ) fun s1 => bnd (bnd (m2 ρ) fun s2 => bnd (ret []) fun ss => ret (s2 :: ss)) fun ss => ret (s1 :: ss)) fun ss => bnd (setAll ρ [i, j] ss) fun ρ' => ret (.nx ρ')) := by
  refine (ps_par hc hN hi hj hij hx hy (pa_cons ha (pa_cons hb pa_nil (notStar_cons hnb)) (notStar_cons hna)) hw rfl).imp fun D σ H ⟨H₀, g₀, g, ρ, S, r, hp, h⟩ => ?_
  dsimp only at h
  rw [bnd_assoc] at h
  refine ⟨g, ρ, S, r.rel, (OutS.bi (RA := SlR X.K H) r hp h).mono fun v H1 ⟨g1, s1, S1, af, l, rv, r1, h1⟩ => ?_⟩
  rw [bnd_assoc, bnd_assoc] at h1
  refine ⟨g1, ρ, S1, r1.rel, (OutS.bi (RA := SlR X.K H1) r1 hp h1).mono fun w H2 ⟨g2, s2, S2, af2, l2, rw', r2, h2⟩ => ?_⟩
  refine ⟨v, w, rfl, ?_⟩
  rw [bnd_assoc, bnd_ret, bnd_ret, bnd_ret] at h2
  have q1 := r2.giveS (rv.ext af2.ext af.ok) (fun p hp => r.af.old_none hp) (fun k a hk => own_there r.rel hk) i
  have q2 := q1.giveS rw' (fun p hp => r1.af.old_none hp) (fun k a hk => by
    rcases own_set hk with hk | ⟨h3, h4⟩
    · exact own_there r1.rel hk
    · rcases rv with ⟨d, rfl, _⟩ | ⟨o, rfl, p, rfl, _, _, _, ro⟩
      · cases h3
      · cases h4
        cases o with
        | l ds => obtain ⟨xs, h1, _⟩ := ro; exact ⟨_, h1⟩
        | d ks ds => obtain ⟨ob, xs, h1, _⟩ := ro; exact ⟨_, h1⟩) j
  have e : setAll ρ [i, j] [s1, s2] S2 = .ok ((ρ.set i s1).set j s2) S2 ∨ setAll ρ [i, j] [s1, s2] S2 = .bad := by
    unfold setAll setAt
    by_cases h1 : i < ρ.length
    · rw [if_pos h1, retE_eq]
      unfold setAll setAt
      by_cases h2 : j < (ρ.set i s1).length
      · left
        show bnd (if j < (ρ.set i s1).length then retE ((ρ.set i s1).set j s2) else bad) (fun ρ' => setAll ρ' [] []) S2 = _
        rw [if_pos h2, retE_eq]
        rfl
      · right
        show bnd (if j < (ρ.set i s1).length then retE ((ρ.set i s1).set j s2) else bad) (fun ρ' => setAll ρ' [] []) S2 = _
        rw [if_neg h2]
        rfl
    · right
      rw [if_neg h1]
      rfl
  unfold Mini.bnd at h2
  rcases e with e | e
  · rw [e] at h2
    exact h2 _ H2 g2 .refl q2 (hP _)
  · rw [e] at h2
    exact h2.elim
end
end Mini

set_option maxHeartbeats 4000000
/-! MINI, part 28: the check of statements. -/
namespace Mini
open PySem PySem.Spec PyProof.Rows L2
structure XStm (X : L2.Cx) (ct : CT) (Pg : Prog) (k : Nat) (B : Tb) (W : WX) : Prop extends XOk X ct Pg k B W where
  own : PassesOwn (model X.prog X.w) X.A X.env X.xe
  stk : X.stack = X.env :: X.outer
  fr : X.env.frame = some X.env.locals
  bk : X.env.blockKind = .function
  err : ErrT X.K ct (cxO Pg k)
  ex : ∀ q ∈ B.ex, ∃ C, ErrC X ct 1 q.name q.f q.c C
  hd : ∀ q ∈ B.hd, ∃ C ns, X.mg q.1 = some (.ref C) ∧ ct q.2 = some (C, ns)
/-- a: the statement may set names -/
def SS (a : Bool) (B : Tb) (s : S) (st : Stmt) : Prop := ∀ X ct Pg k W P, XStm X ct Pg k B W → (a = true → ∀ ρ, P ρ) → DS X ct W P st (exS (cxO Pg k) s)
def SSs (a : Bool) (B : Tb) (ss : List S) (sts : List Stmt) : Prop := ∀ X ct Pg k W P, XStm X ct Pg k B W → (a = true → ∀ ρ, P ρ) → DSs X ct W P sts (exSs (cxO Pg k) ss)
theorem exSs_cons {cx : Cx} {s : S} {ss : List S} : exSs cx (s :: ss) = seqM (exS cx s) (exSs cx ss) := by
  funext ρ
  rw [exSs]
  unfold seqM
  first | rfl | (congr 1; funext f; cases f <;> rfl)
section
variable {B : Tb} {a : Bool}
theorem ss_nil : SSs a B [] [] := fun X ct Pg k W P o hP => dss_nil
theorem ss_cons {s : S} {ss : List S} {st : Stmt} {sts : List Stmt} (h1 : SS a B s st) (h2 : SSs a B ss sts) : SSs a B (s :: ss) (st :: sts) := fun X ct Pg k W P o hP => by
  rw [exSs_cons]
  exact dss_cons (h1 X ct Pg k W P o hP) (h2 X ct Pg k W P o hP)
theorem ss_frz {i : Nat} {ss : List S} {sts : List Stmt} (h2 : SSs true B ss sts) : SSs true B (.frz i :: ss) sts := fun X ct Pg k W P o hP => by
  rw [exSs_cons]
  exact dss_frz (hP rfl) (h2 X ct Pg k W P o hP)
theorem ss_nope {st : Stmt} : SS a B .nope st := fun X ct Pg k W P o hP => ds_nope
theorem ss_asg {t : T} {e : E} {pc pe : Expr} {q : Pos} (ht : ST B t pc) (he : SE B e pe) (hn : notComp pe = true) (hw : swNo B.sc pc pe = true) (hs : notStarE pc = true) : SS true B (.asg t e) (.Assign [pc] pe q) := fun X ct Pg k W P o hP =>
  ds_asg (hP rfl) (he X ct Pg k W o.toXOk).1 (ht X ct Pg k W o.toXOk) (swSole hn) (swNo_ok o.bk (by rw [o.sc]; exact hw)) (by rw [asgEach_cons hs]; rfl)
theorem ss_own {i : Nat} {f : F} {x : Str} {pe : Expr} {q q2 : Pos} (hi : B.N[i]? = some x) (hl : locB B x = true) (hf : SF B f pe) (hn : notComp pe = true) : SS true B (.own i f) (.Assign [.Name x q] pe q2) := fun X ct Pg k W P o hP => by
  exact ds_own (hP rfl) o.nd (by rw [o.N]; exact hi) (o.loc_ hl).1 (o.loc_ hl).2 (hf X ct Pg k W o.toXOk) hn
/-- x = [.. for ..] -/
def swYes (sc : Scope) (scope : Scope) (x : Str) (q : Pos) (pe : Expr) : Bool := decide (sc.names.lookup x = some .local) && ((q.line == pe.pos.line) && !(scope.names.any fun (n, k) => n == x && (k == .local || k == .cell)))
theorem swYes_ok {env : PySem.Env} {x : Str} {q q2 : Pos} {elt : Expr} {gens : List Comprehension} {scope : Scope} {n : Nat} (hb : env.blockKind = .function) (h : swYes env.scope scope x q (.ListComp elt gens scope q2) = true) : swapsWith (.ListComp elt gens scope q2) (some (.Name x q)) n env = pure true := by
  unfold swYes at h
  simp only [Bool.and_eq_true, decide_eq_true_eq] at h
  unfold swapsWith
  dsimp only
  have e1 : (env.blockKind == .function) = true := by rw [hb]; decide
  have e2 : (env.kindOf x == some .local) = true := by rw [show env.kindOf x = some .local from h.1]; decide
  rw [e1, e2, h.2.1, h.2.2]
  rfl
theorem ss_ownLc {i : Nat} {own : List Nat} {elt : E} {t : T} {it : I} {ifs : List E} {x : Str} {pelt ptg pit : Expr} {pifs : List Expr} {scope : Scope} {q q2 q3 : Pos} (hi : B.N[i]? = some x) (hlx : B.sc.names.lookup x = some .local) (hsw : swYes B.sc scope x q (.ListComp pelt [⟨ptg, pit, pifs, 0⟩] scope q2) = true)
    (hit : SI B it ptg pit) (hb : blkP B.N B.sc scope (ownL B.N own) = true) (hv : ∀ i ∈ t.vars, i ∈ own) (hg : ST (B.blk scope) t ptg) (ht : STs (B.blk scope) ifs pifs) (he : SE (B.blk scope) elt pelt) (hs : notSet pit = true)
    (m : Option Mode) : SS true B (match m with
      | none => .own i (.lc own elt t it ifs [])
      | some md => .asg (.name i) (.new md (.lc own elt t it ifs []))) (.Assign [.Name x q] (.ListComp pelt [⟨ptg, pit, pifs, 0⟩] scope q2) q3) := fun X ct Pg k W P o hP => by
  have o1 := o.toXOk
  have L := ps_setLc (te := TEv X.K ct (fun _ _ _ _ => False) (ev (cxO Pg k) elt)) (tt := TTv X.K ct (fun _ _ _ _ => False) (evIfs (cxO Pg k) ifs)) (g := TGv X.K t.vars (asgO t)) (wi := TIv X.K ct W (evI (cxO Pg k) it)) (X := X) (i := i) (y := x) (py := q) (pos := q2) (spos := q3) (own := ownL B.N own) o.calm o.nd (by rw [o.N]; exact hi) (by rw [o.sc]; exact hlx) (swYes_ok o.bk (by rw [o.sc]; exact hsw)) (hit X ct Pg k W o1) (by rw [o.N, o.sc]; exact blkP_ok hb)
    (fun s H C cl fp => hg _ ct Pg k _ (o1.blk scope s H C cl fp)) (fun s H C cl fp => ht _ ct Pg k _ (o1.blk scope s H C cl fp)) (fun s H C cl fp => (he _ ct Pg k _ (o1.blk scope s H C cl fp)).1) (notSet_ok hs _)
  rw [ownL_snd] at L
  cases m with
  | none => exact L.imp fun D σ H h => lc_imp (W2 := fun _ _ _ _ => False) hv (own_imp (hP rfl) h)
  | some md => exact L.imp fun D σ H h => lc_imp (W2 := fun _ _ _ _ => False) hv (new_imp (hP rfl) h)
theorem ss_ownLc2 {i : Nat} {own own1 : List Nat} {elt : E} {t t1 : T} {it it1 : I} {ifs ifs1 : List E} {x : Str} {pelt ptg pit ptg1 pit1 : Expr} {pifs pifs1 : List Expr} {scope : Scope} {q q2 q3 : Pos} (hi : B.N[i]? = some x) (hlx : B.sc.names.lookup x = some .local) (hsw : swYes B.sc scope x q (.ListComp pelt [⟨ptg, pit, pifs, 0⟩, ⟨ptg1, pit1, pifs1, 0⟩] scope q2) = true)
    (hit : SI B it ptg pit) (hb : blkP B.N B.sc scope (ownL B.N own) = true) (hvs : ∀ i ∈ own1, i ∈ own) (hv : ∀ i ∈ t.vars, i ∈ own) (hv1 : ∀ i ∈ t1.vars, i ∈ own1) (hg : ST (B.blk scope) t ptg) (ht : STs (B.blk scope) ifs pifs)
    (hi1 : SI (B.blk scope) it1 ptg1 pit1) (hg1 : ST (B.blk scope) t1 ptg1) (ht1 : STs (B.blk scope) ifs1 pifs1) (he : SE (B.blk scope) elt pelt) (hs : notSet pit = true) (hs1 : notSet pit1 = true)
    (m : Option Mode) : SS true B (match m with
      | none => .own i (.lc own elt t it ifs [.mk own1 t1 it1 ifs1])
      | some md => .asg (.name i) (.new md (.lc own elt t it ifs [.mk own1 t1 it1 ifs1]))) (.Assign [.Name x q] (.ListComp pelt [⟨ptg, pit, pifs, 0⟩, ⟨ptg1, pit1, pifs1, 0⟩] scope q2) q3) := fun X ct Pg k W P o hP => by
  have o1 := o.toXOk
  have L := ps_setLc2 (te := TEv X.K ct (fun _ _ _ _ => False) (ev (cxO Pg k) elt)) (tt := TTv X.K ct (fun _ _ _ _ => False) (evIfs (cxO Pg k) ifs)) (g := TGv X.K t.vars (asgO t)) (wi := TIv X.K ct W (evI (cxO Pg k) it)) (tt1 := TTv X.K ct (fun _ _ _ _ => False) (evIfs (cxO Pg k) ifs1)) (g1 := TGv X.K t1.vars (asgO t1)) (wi1 := TIv X.K ct (fun _ _ _ _ => False) (evI (cxO Pg k) it1)) (X := X) (i := i) (y := x) (py := q) (pos := q2) (spos := q3) (vs1 := own1) (own := ownL B.N own) o.calm o.nd (by rw [o.N]; exact hi) (by rw [o.sc]; exact hlx) (swYes_ok o.bk (by rw [o.sc]; exact hsw)) (hit X ct Pg k W o1) (by rw [o.N, o.sc]; exact blkP_ok hb) (by rw [ownL_snd]; exact hvs)
    (fun s H C cl fp => hg _ ct Pg k _ (o1.blk scope s H C cl fp)) (fun s H C cl fp => ht _ ct Pg k _ (o1.blk scope s H C cl fp)) (fun s H C cl fp => hi1 _ ct Pg k _ (o1.blk scope s H C cl fp)) (fun s H C cl fp => hg1 _ ct Pg k _ (o1.blk scope s H C cl fp))
    (fun s H C cl fp => ht1 _ ct Pg k _ (o1.blk scope s H C cl fp)) (fun s H C cl fp => (he _ ct Pg k _ (o1.blk scope s H C cl fp)).1) (notSet_ok hs _) (notSet_ok hs1)
  rw [ownL_snd] at L
  cases m with
  | none => exact L.imp fun D σ H h => lc2_imp (W2 := fun _ _ _ _ => False) hv hv1 (own_imp (hP rfl) h)
  | some md => exact L.imp fun D σ H h => lc2_imp (W2 := fun _ _ _ _ => False) hv hv1 (new_imp (hP rfl) h)
theorem ss_app {i : Nat} {e : E} {x nm : Str} {pe : Expr} {q1 q2 q3 q4 : Pos} (hi : B.N[i]? = some x) (hv : vis B x = true) (hx : nm = "append") (he : SE B e pe) (hn : noStar [pe] = true) (hl : (q2.endLine == q3.line) = true) : SS true B (.app i e) (.Expr (.Call (.Attribute (.Name x q1) nm q2) [pe] [] q3) q4) := fun X ct Pg k W P o hP => by
  subst hx
  exact ds_app (hP rfl) (by rw [o.N]; exact hi) (o.vis_ hv).1 (o.vis_ hv).2.1 (o.vis_ hv).2.2 (he X ct Pg k W o.toXOk).1 hn hl
theorem ss_ext {i : Nat} {e : E} {x nm : Str} {pe : Expr} {q1 q2 q3 q4 : Pos} (hi : B.N[i]? = some x) (hv : vis B x = true) (hx : nm = "extend") (he : SE B e pe) (hn : noStar [pe] = true) (hl : (q2.endLine == q3.line) = true) : SS true B (.ext i e) (.Expr (.Call (.Attribute (.Name x q1) nm q2) [pe] [] q3) q4) := fun X ct Pg k W P o hP => by
  subst hx
  exact ds_ext (hP rfl) (by rw [o.N]; exact hi) (o.vis_ hv).1 (o.vis_ hv).2.1 (o.vis_ hv).2.2 (he X ct Pg k W o.toXOk).1 hn hl
theorem ss_setC {b c e : E} {pb pc pe : Expr} {q q2 : Pos} (hb : SE B b pb) (hc : SE B c pc) (he : SE B e pe) (hn : notComp pe = true) (hs : notSlice pc = true) : SS a B (.setC b c e) (.Assign [.Subscript pb pc q] pe q2) := fun X ct Pg k W P o hP => by
  exact ds_setC (X := X) (ct := ct) (W := W) (p := q) (pos := q2) (he X ct Pg k W o.toXOk).1 (hb X ct Pg k W o.toXOk).1 (hc X ct Pg k W o.toXOk).1 (swSole hn) (sw_plain (.inr rfl)) (fun v => by cases pc <;> first | rfl | (simp [notSlice] at hs))
theorem ss_ex {e : E} {pe : Expr} {q : Pos} (he : SE B e pe) (hn : notComp pe = true) : SS a B (.ex e) (.Expr pe q) := fun X ct Pg k W P o hP => ds_ex (he X ct Pg k W o.toXOk).1 hn
theorem ss_ret {e : E} {pe : Expr} {q : Pos} (he : SE B e pe) : SS a B (.ret e) (.Return (some pe) q) := fun X ct Pg k W P o hP => ds_ret (he X ct Pg k W o.toXOk).1
theorem ss_retO {i : Nat} {m : Mode} {x : Str} {q q2 : Pos} (hi : B.N[i]? = some x) (hv : vis B x = true) : SS a B (.retO i m) (.Return (some (.Name x q)) q2) := fun X ct Pg k W P o hP => ds_retO (by rw [o.N]; exact hi) (o.vis_ hv).1 (o.vis_ hv).2.1 (o.vis_ hv).2.2
theorem ss_iff {c : E} {p1 p2 : List S} {pc : Expr} {q1 q2 : List Stmt} {q : Pos} (hc : SE B c pc) (h1 : SSs a B p1 q1) (h2 : SSs a B p2 q2) : SS a B (.iff c p1 p2) (.If pc q1 q2 q) := fun X ct Pg k W P o hP => by
  have e : exS (cxO Pg k) (.iff c p1 p2) = fun ρ => bnd (evT (cxO Pg k) c ρ) fun t => if t then exSs (cxO Pg k) p1 ρ else exSs (cxO Pg k) p2 ρ := by
    funext ρ
    unfold evT
    rw [bnd_assoc]
    rfl
  rw [e]
  exact ds_if (hc X ct Pg k W o.toXOk).2 (h1 X ct Pg k W P o hP) (h2 X ct Pg k W P o hP)
theorem ss_for {t : T} {it : I} {b : List S} {ptg pit : Expr} {pb : List Stmt} {q : Pos} (ht : ST B t ptg) (hi : SI B it ptg pit) (hb : SSs true B b pb) (hs : notSet pit = true) : SS true B (.for t it b) (.For ptg pit pb [] q) := fun X ct Pg k W P o hP =>
  ds_for (hP rfl) o.own o.calm (hi X ct Pg k W o.toXOk) (ht X ct Pg k W o.toXOk) (hb X ct Pg k W P o hP) (notSet_ok hs _)
theorem ss_forL {t : T} {e : E} {b : List S} {ptg pe : Expr} {pb : List Stmt} {q : Pos} (ht : ST B t ptg) (he : SE B e pe) (hb : SSs true B b pb) (hs : notSet pe = true) : SS true B (.forL t e b) (.For ptg pe pb [] q) := fun X ct Pg k W P o hP =>
  ds_forL (hP rfl) o.own o.calm (he X ct Pg k W o.toXOk).1 (ht X ct Pg k W o.toXOk) (hb X ct Pg k W P o hP) (notSet_ok hs _)
theorem ss_whl {c : E} {b : List S} {pc : Expr} {pb : List Stmt} {q : Pos} (hc : SE B c pc) (hb : SSs a B b pb) : SS a B (.whl c b) (.While pc pb [] q) := fun X ct Pg k W P o hP => ds_whl o.own (hc X ct Pg k W o.toXOk).2 (hb X ct Pg k W P o hP)
theorem ss_raise {c : Nat} {e : E} {x : Str} {pe : Expr} {q1 q2 q3 : Pos} {ee : EE} (he : SE B e pe) (hs : e.isStar = false) (hx : ee ∈ B.ex) (hn : ee.name = x) (hc : ee.c = c) (hg : gi B x = true) (hst : noStar [pe] = true) : SS a B (.raise c [e]) (.Raise (some (.Call (.Name x q1) [pe] [] q2)) none q3) := fun X ct Pg k W P o hP => by
  subst hn hc
  obtain ⟨C, hE⟩ := o.ex ee hx
  have e' : exS (cxO Pg k) (.raise ee.c [e]) = fun ρ => bnd (ev (cxO Pg k) e ρ) fun d => fun S => .err ee.c [d] S := by
    funext ρ
    show (bnd (evs (cxO Pg k) [e] ρ) fun ds => fun S => R.err ee.c ds S) = _
    rw [evs_cons hs]
    show bnd (bnd (ev (cxO Pg k) e ρ) fun x => bnd (ret []) fun xs => ret (x :: xs)) (fun ds => fun S => R.err ee.c ds S) = _
    rw [bnd_assoc]
    rfl
  rw [e']
  exact ds_raise o.calm o.tk (o.room.mono (by omega)) hE (o.gi_ hg).1 (o.gi_ hg).2 (he X ct Pg k W o.toXOk).1 hst
theorem ss_pass {q : Pos} : SS a B .pass (.Pass q) := fun X ct Pg k W P o hP => ds_pass
theorem ss_brk {q : Pos} : SS a B .brk (.Break q) := fun X ct Pg k W P o hP => ds_brk
theorem ss_cnt {q : Pos} : SS a B .cnt (.Continue q) := fun X ct Pg k W P o hP => ds_cnt
end
end Mini

set_option maxHeartbeats 4000000
/-! MINI, part 29: the check of statements, its recursion. -/
namespace Mini
open PySem PySem.Spec PyProof.Rows L2
def slotM (cx : Cx) : P → Env → M Slot
  | .val e, ρ => bnd (ev cx e ρ) fun d => ret (.val d)
  | .own f, ρ => bnd (evF cx f ρ) fun o => ret (slotOf o)
theorem evP_cons {cx : Cx} {p : P} {ps : List P} : evP cx (p :: ps) = fun ρ => bnd (slotM cx p ρ) fun s => bnd (evP cx ps ρ) fun ss => ret (s :: ss) := by
  funext ρ
  cases p with
  | val e => rw [evP, slotM, bnd_assoc]; rfl
  | own f => rw [evP, slotM, bnd_assoc]; rfl
def SPp (B : Tb) (p : P) (pe : Expr) : Prop := ∀ X ct Pg k W, XOk X ct Pg k B W → DP X ct W pe (slotM (cxO Pg k) p)
section
variable {B : Tb} {a : Bool}
theorem sp_val {e : E} {pe : Expr} (h : SE B e pe) : SPp B (.val e) pe := fun X ct Pg k W o => dp_val (h X ct Pg k W o).1
theorem sp_own {f : F} {pe : Expr} (h : SF B f pe) : SPp B (.own f) pe := fun X ct Pg k W o => dp_own (h X ct Pg k W o)
theorem ss_par2 {i j : Nat} {p1 p2 : P} {x y : Str} {px py pt pt2 q : Pos} {kt k2 : Nat} {pa pb : Expr} (hi : B.N[i]? = some x) (hj : B.N[j]? = some y) (hij : i ≠ j) (hx : B.sc.names.lookup x = some .local) (hy : B.sc.names.lookup y = some .local) (h1 : SPp B p1 pa) (h2 : SPp B p2 pb)
    (hna : notStarE pa = true) (hnb : notStarE pb = true) (hA : swA .function [.Name x px, .Name y py] [pa, pb] = false) (hB : swB [pa, pb] = false) (hC : swC B.sc [.Name x px, .Name y py] = false) (hD : [pa, pb].all (foldedForSure 8) = false) (hE : [pa, pb].all (constantsAlone 8) = false)
    (hL : swL B.sc [.Name x px, .Name y py] = [x, y]) : SS true B (.par [i, j] [p1, p2]) (.Assign [.Tuple [.Name x px, .Name y py] kt pt] (.Tuple [pa, pb] k2 pt2) q) := fun X ct Pg k W P o hP => by
  have e : exS (cxO Pg k) (.par [i, j] [p1, p2]) = fun ρ => bnd (bnd (slotM (cxO Pg k) p1 ρ) fun s1 => bnd (bnd (slotM (cxO Pg k) p2 ρ) fun s2 => bnd (ret []) fun ss => ret (s2 :: ss)) fun ss => ret (s1 :: ss)) fun ss => bnd (setAll ρ [i, j] ss) fun ρ' => ret (.nx ρ') := by
    funext ρ
    rw [exS, evP_cons, evP_cons]
    rfl
  rw [e]
  exact ds_par2 (hP rfl) o.calm o.nd (by rw [o.N]; exact hi) (by rw [o.N]; exact hj) hij (by rw [o.sc]; exact hx) (by rw [o.sc]; exact hy) (h1 X ct Pg k W o.toXOk) (h2 X ct Pg k W o.toXOk) hna hnb
    (by rw [← hL, ← o.sc]; exact sw_some (by rw [o.bk]; exact hA) hB (by rw [o.sc]; exact hC) hD hE)
def SH (B : Tb) (hs : List Hd) (hds : List ExceptHandler) : Prop := ∀ X ct Pg k W, XStm X ct Pg k B W → ∃ l, HdsD X ct hds hs l
theorem XStm.tr {X : L2.Cx} {ct : CT} {Pg : Prog} {k : Nat} {W W' : WX} (o : XStm X ct Pg k B W) {pn : List (Addr × Obj)} {xe : Value → Shared → Prop} (tk : Takes (X.tr pn xe) W') (hown : PassesOwn (model X.prog X.w) X.A X.env xe) : XStm (X.tr pn xe) ct Pg k B W' :=
  ⟨⟨o.calm, o.N, o.nd, o.sc, o.cel, tk, o.un, o.room, o.gl, o.fn, o.im, o.cst⟩, hown, o.stk, o.fr, o.bk, o.err, fun q h => by obtain ⟨C, e⟩ := o.ex q h; exact ⟨C, ⟨e.gC, e.ct_, e.T, e.no, e.ini⟩⟩, o.hd⟩
theorem ss_try {b : List S} {hs : List Hd} {pb : List Stmt} {h₀ : ExceptHandler} {hds : List ExceptHandler} {q : Pos} (hb : SSs false B b pb) (hh : SH B hs (h₀ :: hds)) : SS a B (.try b hs) (.Try pb (h₀ :: hds) [] [] q) := fun X ct Pg k W P o hP => by
  obtain ⟨l, hl⟩ := hh X ct Pg k W o
  exact ds_try o.err o.stk o.fr o.nd o.tk (fun W' P' pn xe h1 h2 => hb _ ct Pg k W' P' (o.tr h1 h2) (fun z => by cases z)) hl
theorem sh_nil : SH B [] [] := fun X ct Pg k W o => ⟨[], .nil⟩
theorem sh_fld {c : Nat} {m : Mode} {w f : Str} {i : Nat} {hs : List Hd} {x n : Str} {np pos' : Pos} {b₀ : Stmt} {body : List Stmt} {hds : List ExceptHandler} (hg : gi B x = true) (hx : (x, c) ∈ B.hd) (hi : B.N[i]? = some n) (hn : B.sc.names.lookup n = some .local) (hv : vis B n = true) (hb : HC.chk (some n) (.fld m w f i) (b₀ :: body) = true) (r : SH B hs hds) :
    SH B (⟨c, .fld m w f i⟩ :: hs) (.ExceptHandler (some (.Name x np)) (some n) (b₀ :: body) pos' :: hds) := fun X ct Pg k W o => by
  obtain ⟨C, ns, h1, h2⟩ := o.hd _ hx
  obtain ⟨l, hl⟩ := r X ct Pg k W o
  exact ⟨_, .fld (o.gi_ hg).1 (o.gi_ hg).2 h1 h2 (by rw [o.N]; exact hi) (by rw [o.sc]; exact hn) (o.vis_ hv).2.1 (o.vis_ hv).2.2 hb hl⟩
theorem sh_kon {c : Nat} {hc : HC} {hs : List Hd} {x : Str} {np pos' : Pos} {b₀ : Stmt} {body : List Stmt} {hds : List ExceptHandler} (hg : gi B x = true) (hx : (x, c) ∈ B.hd) (hsl : hc.slot = none) (hb : HC.chk none hc (b₀ :: body) = true) (r : SH B hs hds) :
    SH B (⟨c, hc⟩ :: hs) (.ExceptHandler (some (.Name x np)) none (b₀ :: body) pos' :: hds) := fun X ct Pg k W o => by
  obtain ⟨C, ns, h1, h2⟩ := o.hd _ hx
  obtain ⟨l, hl⟩ := r X ct Pg k W o
  exact ⟨_, .kon (o.gi_ hg).1 (o.gi_ hg).2 h1 h2 hsl hb hl⟩
end
def ckHs : (hs : List Hd) → (B : Tb) → (hds : List ExceptHandler) → Option (Pf (SH B hs hds))
  | [], B, hds => match hds with
    | [] => some ⟨sh_nil⟩
    | _ => none
  | ⟨c, hc⟩ :: hs, B, hds => match hds with
    | .ExceptHandler (some (.Name x _)) none (b₀ :: body) _ :: hds => match ckHs hs B hds with
      | some q => if h : (gi B x = true ∧ (x, c) ∈ B.hd) ∧ hc.slot = none ∧ HC.chk none hc (b₀ :: body) = true then some ⟨sh_kon h.1.1 h.1.2 h.2.1 h.2.2 q.pf⟩ else none
      | none => none
    | .ExceptHandler (some (.Name x _)) (some n) (b₀ :: body) _ :: hds => match hc, ckHs hs B hds with
      | .fld m w f i, some q => if h : (gi B x = true ∧ (x, c) ∈ B.hd) ∧ (B.N[i]? = some n ∧ B.sc.names.lookup n = some .local ∧ vis B n = true) ∧ HC.chk (some n) (.fld m w f i) (b₀ :: body) = true then
          some ⟨sh_fld h.1.1 h.1.2 h.2.1.1 h.2.1.2.1 h.2.1.2.2 h.2.2 q.pf⟩ else none
      | _, _ => none
    | _ => none
def ckP : (p : P) → (B : Tb) → (pe : Expr) → Option (Pf (SPp B p pe))
  | .val e, B, pe => match ckE e B pe with
    | some q => some ⟨sp_val q.pf⟩
    | none => none
  | .own f, B, pe => match ckF f B pe with
    | some q => some ⟨sp_own q.pf⟩
    | none => none
def eeAt (B : Tb) (x : Str) (c : Nat) : Option EE := B.ex.find? fun q => decide (q.name = x) && decide (q.c = c)
theorem eeAt_ok {B : Tb} {x : Str} {i : Nat} {q : EE} (h : eeAt B x i = some q) : q ∈ B.ex ∧ q.name = x ∧ q.c = i := by
  have h1 := List.mem_of_find?_eq_some h
  have h2 := List.find?_some h
  simp only [Bool.and_eq_true, decide_eq_true_eq] at h2
  exact ⟨h1, h2.1, h2.2⟩
/-- name = [.. for ..], the name a local of the same line -/
def ckLc : (f : F) → (i : Nat) → (m : Option Mode) → (B : Tb) → (st : Stmt) → Option (Pf (SS true B (match m with
      | none => .own i f
      | some md => .asg (.name i) (.new md f)) st))
  | .lc own elt t it ifs [], i, m, B, st => match st with
    | .Assign [.Name x q] (.ListComp pelt [⟨ptg, pit, pifs, 0⟩] scope q2) _ => match ckI it B ptg pit, ckT t (B.blk scope) ptg, ckIfs ifs (B.blk scope) pifs, ckE elt (B.blk scope) pelt with
      | some q1, some q3, some q4, some q5 => if h : (B.N[i]? = some x ∧ B.sc.names.lookup x = some .local ∧ swYes B.sc scope x q (.ListComp pelt [⟨ptg, pit, pifs, 0⟩] scope q2) = true) ∧ blkP B.N B.sc scope (ownL B.N own) = true ∧ (∀ i ∈ t.vars, i ∈ own) ∧ notSet pit = true then
          some ⟨ss_ownLc h.1.1 h.1.2.1 h.1.2.2 q1.pf h.2.1 h.2.2.1 q3.pf q4.pf q5.pf h.2.2.2 m⟩ else none
      | _, _, _, _ => none
    | _ => none
  | .lc own elt t it ifs [.mk own1 t1 it1 ifs1], i, m, B, st => match st with
    | .Assign [.Name x q] (.ListComp pelt [⟨ptg, pit, pifs, 0⟩, ⟨ptg1, pit1, pifs1, 0⟩] scope q2) _ => match ckI it B ptg pit, ckT t (B.blk scope) ptg, ckIfs ifs (B.blk scope) pifs, ckE elt (B.blk scope) pelt, ckI it1 (B.blk scope) ptg1 pit1, ckT t1 (B.blk scope) ptg1, ckIfs ifs1 (B.blk scope) pifs1 with
      | some q1, some q3, some q4, some q5, some q6, some q7, some q8 => if h : (B.N[i]? = some x ∧ B.sc.names.lookup x = some .local ∧ swYes B.sc scope x q (.ListComp pelt [⟨ptg, pit, pifs, 0⟩, ⟨ptg1, pit1, pifs1, 0⟩] scope q2) = true) ∧ (blkP B.N B.sc scope (ownL B.N own) = true ∧ (∀ i ∈ own1, i ∈ own)) ∧ ((∀ i ∈ t.vars, i ∈ own) ∧ (∀ i ∈ t1.vars, i ∈ own1)) ∧ notSet pit = true ∧ notSet pit1 = true then
          some ⟨ss_ownLc2 h.1.1 h.1.2.1 h.1.2.2 q1.pf h.2.1.1 h.2.1.2 h.2.2.1.1 h.2.2.1.2 q3.pf q4.pf q6.pf q7.pf q8.pf q5.pf h.2.2.2.1 h.2.2.2.2 m⟩ else none
      | _, _, _, _, _, _, _ => none
    | _ => none
  | _, i, m, B, st => none
mutual
/-- statements that set no name -/
def ckR1 : (s : S) → (B : Tb) → (st : Stmt) → Option (Pf (SS false B s st))
  | .ret e, B, st => match st with
    | .Return (some pe) _ => match ckE e B pe with
      | some q => some ⟨ss_ret q.pf⟩
      | none => none
    | _ => none
  | .ex e, B, st => match st with
    | .Expr pe _ => match ckE e B pe with
      | some q => if h : notComp pe = true then some ⟨ss_ex q.pf h⟩ else none
      | none => none
    | _ => none
  | .iff c p1 p2, B, st => match st with
    | .If pc q1 q2 _ => match ckE c B pc, ckR p1 B q1, ckR p2 B q2 with
      | some a1, some a2, some a3 => some ⟨ss_iff a1.pf a2.pf a3.pf⟩
      | _, _, _ => none
    | _ => none
  | _, B, st => none
def ckR : (ss : List S) → (B : Tb) → (sts : List Stmt) → Option (Pf (SSs false B ss sts))
  | [], B, sts => match sts with
    | [] => some ⟨ss_nil⟩
    | _ => none
  | s :: ss, B, sts => match sts with
    | st :: sts => match ckR1 s B st, ckR ss B sts with
      | some q1, some q2 => some ⟨ss_cons q1.pf q2.pf⟩
      | _, _ => none
    | _ => none
end
mutual
def ckS : (s : S) → (B : Tb) → (st : Stmt) → Option (Pf (SS true B s st))
  | .asg t e, B, st => match st with
    | .Assign [pc] pe _ => match ckT t B pc, ckE e B pe with
      | some q1, some q2 => if h : notComp pe = true ∧ swNo B.sc pc pe = true ∧ notStarE pc = true then some ⟨ss_asg q1.pf q2.pf h.1 h.2.1 h.2.2⟩ else
          (match t, e with
          | .name i, .new md f => ckLc f i (some md) B _
          | _, _ => none)
      | _, _ => none
    | _ => none
  | .own i f, B, st => match ckLc f i none B st with
    | some q => some q
    | none => match st with
      | .Assign [.Name x _] pe _ => match ckF f B pe with
        | some q => if h : (B.N[i]? = some x ∧ locB B x = true) ∧ notComp pe = true then some ⟨ss_own h.1.1 h.1.2 q.pf h.2⟩ else none
        | none => none
      | _ => none
  | .mov _ _, B, st => none
  | .frz _, B, st => none
  | .par ts ps, B, st => match ts, ps with
    | [i, j], [p1, p2] => match st with
      | .Assign [.Tuple [.Name x px, .Name y py] _ _] (.Tuple [pa, pb] _ _) _ => match ckP p1 B pa, ckP p2 B pb with
        | some q1, some q2 => if h : ((B.N[i]? = some x ∧ B.N[j]? = some y) ∧ i ≠ j ∧ B.sc.names.lookup x = some .local ∧ B.sc.names.lookup y = some .local) ∧ (notStarE pa = true ∧ notStarE pb = true) ∧
            (swA .function [.Name x px, .Name y py] [pa, pb] = false ∧ swB [pa, pb] = false ∧ swC B.sc [.Name x px, .Name y py] = false) ∧ [pa, pb].all (foldedForSure 8) = false ∧ [pa, pb].all (constantsAlone 8) = false ∧ swL B.sc [.Name x px, .Name y py] = [x, y] then
            some ⟨ss_par2 h.1.1.1 h.1.1.2 h.1.2.1 h.1.2.2.1 h.1.2.2.2 q1.pf q2.pf h.2.1.1 h.2.1.2 h.2.2.1.1 h.2.2.1.2.1 h.2.2.1.2.2 h.2.2.2.1 h.2.2.2.2.1 h.2.2.2.2.2⟩ else none
        | _, _ => none
      | _ => none
    | _, _ => none
  | .app i e, B, st => match st with
    | .Expr (.Call (.Attribute (.Name x _) nm q2) [pe] [] q3) _ => match ckE e B pe with
      | some q => if h : (B.N[i]? = some x ∧ vis B x = true) ∧ nm = "append" ∧ noStar [pe] = true ∧ (q2.endLine == q3.line) = true then some ⟨ss_app h.1.1 h.1.2 h.2.1 q.pf h.2.2.1 h.2.2.2⟩ else none
      | none => none
    | _ => none
  | .ext i e, B, st => match st with
    | .Expr (.Call (.Attribute (.Name x _) nm q2) [pe] [] q3) _ => match ckE e B pe with
      | some q => if h : (B.N[i]? = some x ∧ vis B x = true) ∧ nm = "extend" ∧ noStar [pe] = true ∧ (q2.endLine == q3.line) = true then some ⟨ss_ext h.1.1 h.1.2 h.2.1 q.pf h.2.2.1 h.2.2.2⟩ else none
      | none => none
    | _ => none
  | .setO _ _ _, B, st => none
  | .setC b c e, B, st => match st with
    | .Assign [.Subscript pb pc _] pe _ => match ckE b B pb, ckE c B pc, ckE e B pe with
      | some q1, some q2, some q3 => if h : notComp pe = true ∧ notSlice pc = true then some ⟨ss_setC q1.pf q2.pf q3.pf h.1 h.2⟩ else none
      | _, _, _ => none
    | _ => none
  | .ex e, B, st => match st with
    | .Expr pe _ => match ckE e B pe with
      | some q => if h : notComp pe = true then some ⟨ss_ex q.pf h⟩ else none
      | none => none
    | _ => none
  | .ret e, B, st => match st with
    | .Return (some pe) _ => match ckE e B pe with
      | some q => some ⟨ss_ret q.pf⟩
      | none => none
    | _ => none
  | .retO i m, B, st => match st with
    | .Return (some (.Name x _)) _ => if h : B.N[i]? = some x ∧ vis B x = true then some ⟨ss_retO h.1 h.2⟩ else none
    | _ => none
  | .iff c p1 p2, B, st => match st with
    | .If pc q1 q2 _ => match ckE c B pc, ckSs p1 B q1, ckSs p2 B q2 with
      | some a1, some a2, some a3 => some ⟨ss_iff a1.pf a2.pf a3.pf⟩
      | _, _, _ => none
    | _ => none
  | .for t it b, B, st => match st with
    | .For ptg pit pb [] _ => match ckT t B ptg, ckI it B ptg pit, ckSs b B pb with
      | some a1, some a2, some a3 => if h : notSet pit = true then some ⟨ss_for a1.pf a2.pf a3.pf h⟩ else none
      | _, _, _ => none
    | _ => none
  | .forL t e b, B, st => match st with
    | .For ptg pe pb [] _ => match ckT t B ptg, ckE e B pe, ckSs b B pb with
      | some a1, some a2, some a3 => if h : notSet pe = true then some ⟨ss_forL a1.pf a2.pf a3.pf h⟩ else none
      | _, _, _ => none
    | _ => none
  | .whl c b, B, st => match st with
    | .While pc pb [] _ => match ckE c B pc, ckSs b B pb with
      | some a1, some a2 => some ⟨ss_whl a1.pf a2.pf⟩
      | _, _ => none
    | _ => none
  | .raise c es, B, st => match es, st with
    | [e], .Raise (some (.Call (.Name x _) [pe] [] _)) none _ => match ckE e B pe, hx : eeAt B x c with
      | some q, some ee => if h : e.isStar = false ∧ gi B x = true ∧ noStar [pe] = true then some ⟨ss_raise q.pf h.1 (eeAt_ok hx).1 (eeAt_ok hx).2.1 (eeAt_ok hx).2.2 h.2.1 h.2.2⟩ else none
      | _, _ => none
    | _, _ => none
  | .try b hs, B, st => match st with
    | .Try pb (h₀ :: hds) [] [] _ => match ckR b B pb, ckHs hs B (h₀ :: hds) with
      | some a1, some a2 => some ⟨ss_try a1.pf a2.pf⟩
      | _, _ => none
    | _ => none
  | .brk, B, st => match st with
    | .Break _ => some ⟨ss_brk⟩
    | _ => none
  | .cnt, B, st => match st with
    | .Continue _ => some ⟨ss_cnt⟩
    | _ => none
  | .pass, B, st => match st with
    | .Pass _ => some ⟨ss_pass⟩
    | _ => none
  | .nope, B, st => some ⟨ss_nope⟩
def ckSs : (ss : List S) → (B : Tb) → (sts : List Stmt) → Option (Pf (SSs true B ss sts))
  | [], B, sts => match sts with
    | [] => some ⟨ss_nil⟩
    | _ => none
  | .frz i :: ss, B, sts => match ckSs ss B sts with
    | some q => some ⟨ss_frz q.pf⟩
    | none => none
  | s :: ss, B, sts => match sts with
    | st :: sts => match ckS s B st, ckSs ss B sts with
      | some q1, some q2 => some ⟨ss_cons q1.pf q2.pf⟩
      | _, _ => none
    | _ => none
end
end Mini

set_option maxHeartbeats 4000000
/-! MINI, part 30: all defs keep their promises, by the depth of calls. -/
namespace Mini
open PySem PySem.Spec PyProof.Rows L2
/-- what stands at the row's top, as the defs see it -/
structure TopIn (P : Program) (w : World) (K : Frag) (mg : Str → Option Value) (base : Heap) (ct : CT) (Pg : Prog) (gl : List Str) (im : List (Str × String)) (ex : List EE) (hd : List (Str × Nat)) : Prop where
  gl : ∀ x ∈ gl, mg x = none
  im : ∀ q ∈ im, mg q.1 = some (.builtin q.2)
  exm : ∀ c k b, Pg.exm c k = some b → ∃ C ns C' ns', ct c = some (C, ns) ∧ ct k = some (C', ns') ∧ PySem.W.exmOne K (.ref C) (.ref C') = some b
  fld : ∀ c f, Pg.fld c = some f → ∃ C, ct c = some (C, [f]) ∧ XfC K C ∧ PySem.W.findIn K (.ref C) f = some none
  ex : ∀ q ∈ ex, ∃ C fI fd, mg q.name = some (.ref C) ∧ ct q.c = some (C, [q.f]) ∧ OexC K C ∧ PySem.W.findIn K (.ref C) q.f = some none ∧ PySem.W.findIn K (.ref C) "__init__" = some (some (.ref fI)) ∧
    PySem.W.typeIn K (.ref fI) = some (.type "function") ∧ Binds K fd [("self" : Str), q.f] [] ∧ FnOk P w K mg base (L2.CX P w) 1 fI fd [("self" : Str), q.f] (spInit K q.f)
  hd : ∀ q ∈ hd, ∃ C ns, mg q.1 = some (.ref C) ∧ ct q.2 = some (C, ns)
/-- a def: where it stands, its text, its compact form -/
structure DefIn (K : Frag) (mg : Str → Option Value) (Pg : Prog) (B : Tb) (q : FE) : Prop where
  ok : ∃ (f : Addr) (fd : FuncData) (qual : Str) (params : Arguments) (body : List Stmt) (fn : Fn) (ps : List Str), mg q.name = some (.ref f) ∧ FunD K q.name qual params body B.sc [] [] f fd ∧ FnScope B.N ps B.sc ∧ ps.length = q.pars ∧
    Pg.fn q.i = some fn ∧ fn.pars = q.pars ∧ fn.slots = B.N.length ∧ SSs true B fn.body body ∧ Binds K fd ps [] ∧ ∀ w ∈ q.kws, KwB K fd ps w.1 w.2.1 w.2.2
def FnG (P : Program) (w : World) (K : Frag) (mg : Str → Option Value) (base : Heap) (ct : CT) (Pg : Prog) (k : Nat) (q : FE) : Prop := ∃ f fd ps fn, mg q.name = some (.ref f) ∧ PySem.W.keepIn K (.ref f) = true ∧ Binds K fd ps [] ∧ (∀ w ∈ q.kws, KwB K fd ps w.1 w.2.1 w.2.2) ∧
  FnOk P w K mg base (L2.CX P w) (k + 2) f fd ps (spF K ct Pg q.pars k q.i) ∧ Pg.fn q.i = some fn ∧ fn.pars = q.pars
section
variable {P : Program} {w : World} {K : Frag} {mg : Str → Option Value} {base : Heap} {ct : CT} {Pg : Prog} {gl : List Str} {im : List (Str × String)} {ex : List EE} {hd : List (Str × Nat)} {fns : List FE}
theorem step_ok (T : TopIn P w K mg base ct Pg gl im ex hd) {N ps : List Str} {qual : Str} {scope : Scope} {f : Addr} {cdv : Value} {A : Around} {outer : List PySem.Env} {s : Shared} {H : Hp} {E : XK} {k : Nat} {B : Tb} (Sc : FnScope N ps scope) (hN : B.N = N) (hsc : B.sc = scope)
    (hgl : B.gl = gl) (hfn : B.fn = fns) (him : B.im = im) (hcst : B.cst = []) (hex : B.ex = ex) (hhd : B.hd = hd) (hr : Room (k + 2) (A.deeper (envOfC qual scope s.heap.objs.size f cdv))) (ih : ∀ q ∈ fns, FnG P w K mg base ct Pg k q) :
    XStm (cxOf (L2.CX P w) P w K mg base N qual scope f cdv A outer s H E) ct Pg k B (fun c d _ H' => E c d H') where
  calm := rfl
  N := hN.symm
  nd := Sc.nd
  sc := hsc.symm
  cel := fun x _ => rfl
  tk := takes_of (X := cxOf (L2.CX P w) P w K mg base N qual scope f cdv A outer s H E) rfl rfl rfl rfl
  un := by
    have := hr.un
    show (A.deeper (envOfC qual scope s.heap.objs.size f cdv)).units + 64 < cLine
    omega
  room := hr
  gl := by rw [hgl]; exact T.gl
  fn := by rw [hfn]; exact ih
  im := by rw [him]; exact T.im
  cst := by rw [hcst]; exact fun q h => by cases h
  own := passes_of (X := cxOf (L2.CX P w) P w K mg base N qual scope f cdv A outer s H E) rfl
  stk := rfl
  fr := rfl
  bk := by
    show (if scope.kind.isAnnotationScope then ScopeKind.function else scope.kind) = .function
    rw [Sc.kind]
    rfl
  err := ⟨T.exm, T.fld⟩
  ex := by
    rw [hex]
    intro q h
    obtain ⟨C, fI, fd, h1, h2, h3, h4, h5, h6, h7, h8⟩ := T.ex q h
    exact ⟨C, h1, h2, h3, h4, fI, fd, h5, h6, h7, h8⟩
  hd := by rw [hhd]; exact T.hd
theorem all_ok (T : TopIn P w K mg base ct Pg gl im ex hd) (D : ∀ q ∈ fns, ∃ B : Tb, B.gl = gl ∧ B.fn = fns ∧ B.im = im ∧ B.cst = [] ∧ B.ex = ex ∧ B.hd = hd ∧ DefIn K mg Pg B q) : ∀ k : Nat, ∀ q ∈ fns, FnG P w K mg base ct Pg k q := by
  intro k
  induction k with
  | zero =>
    intro q hq
    obtain ⟨B, _, _, _, _, _, _, ⟨f, fd, qual, params, body, fn, ps, h1, h2, h3, h4, h5, h6, h7, h8, h9, h10⟩⟩ := D q hq
    refine ⟨f, fd, ps, fn, h1, h2.kp, h9, h10, ?_, h5, h6⟩
    rw [← h4]
    exact fn_ok0 h2
  | succ k ih =>
    intro q hq
    obtain ⟨B, b1, b2, b3, b4, b5, b6, ⟨f, fd, qual, params, body, fn, ps, h1, h2, h3, h4, h5, h6, h7, h8, h9, h10⟩⟩ := D q hq
    refine ⟨f, fd, ps, fn, h1, h2.kp, h9, h10, ?_, h5, h6⟩
    rw [← h4]
    exact fn_ok (j := k + 2) h2 h3 h5 (by rw [h6, h4]) h7 fun cdv A outer s H E hr => h8 _ ct Pg k _ _ (step_ok (fns := fns) T h3 rfl rfl b1 b2 b3 b4 b5 b6 hr ih) fun _ _ => trivial
end
end Mini

set_option maxHeartbeats 4000000
/-! MINI, part 31: the law's end, the hook. -/
namespace Mini
open PySem PySem.Spec PyProof.Rows L2
/-- the script as a value -/
def scrD (ns : List Int) : D := .scr (ns.map .int)
theorem reps_ints {K : Frag} {H : Hp} {g : Gh} : ∀ ns : List Int, Reps K H g (ns.map V.int) (ns.map D.int)
  | [] => reps_nil
  | n :: ns => reps_cons rep_int (reps_ints ns)
theorem law_sp {K : Frag} {ct : CT} {Pg : Prog} {k i : Nat} (hrun : ∀ ns : List Int, ns.length ≤ 63 → ∃ S', run Pg k i [scrD ns] [] = .ok (.bl true) S') (H : Hp) (a : Addr) (ns : List Int) (hl : ns.length ≤ 63) (hS : SqL K H a (ns.map V.int)) :
    spF K ct Pg 1 k i [.ref a] H (fun v _ => v = .bl true) fun _ _ _ => False := by
  let g : Gh := ⟨fun b => ∃ o, H b = some o, []⟩
  have ok : Gok H g := ⟨fun b f => ⟨f, by simp [g]⟩, fun b m => by simp [g] at m, by simp [g]⟩
  have af : After K H g H g [] := ⟨.refl, ok, rfl, fun l c h => by simp at h⟩
  refine ⟨rfl, g, [], [scrD ns], af, reps_cons ?_ reps_nil, ?_⟩
  · unfold scrD
    rw [Rep]
    refine ⟨a, _, rfl, ?_, reps_ints ns⟩
    rcases hS with h | h
    · refine .inl ⟨h, ?_⟩
      rcases h with h | ⟨o, h⟩
      · exact ⟨_, h⟩
      · exact ⟨_, h⟩
    · exact .inr (.inr h)
  · obtain ⟨S', e⟩ := hrun ns hl
    rw [e]
    exact fun H' g' b _ r => r.bl_inv
/-- the part of the heap that is looked at -/
def partM (n : Nat) (g : Addr → Option Obj) : Frag := He.frG g (cStatics :: He.asD g n)
def obsM (n : Nat) (ck : Frag → Bool) (fa : List He.Fa) (fn : List He.DefD) (g : Addr → Option Obj) : Bool × He.AlD := (ck (partM n g), He.obsD fa fn (partM n g))
/-- the hook: facts of defs, and whatever else can be reckoned of the written part -/
def hookM (n : Nat) (ck : Frag → Bool) (fa : List He.Fa) (fn : List He.DefD) : PySem.W.Hook where
  α := Bool × He.AlD
  obs := fun s => obsM n ck fa fn s.heap.get?
  val := fun _ => (true, He.valD fn)
  says := fun _ h => ∃ K : Frag, K.In h ∧ ck K = true ∧ He.SaysD fa fn K
  of := fun _ _ e => ⟨_, He.frG_in, congrArg (fun z : Bool × He.AlD => z.1) e, congrArg (fun z : Bool × He.AlD => z.2) e⟩
  keeps := fun _ _ _ ⟨K, hK, c⟩ k => ⟨K, PySem.W.Frag.In.keeps hK k, c⟩
theorem obsM_eq {n : Nat} {ck : Frag → Bool} {fa : List He.Fa} {fn : List He.DefD} {g : Addr → Option Obj} {s : Shared} (h : ∀ a, g a = s.heap.get? a) : obsM n ck fa fn g = (hookM n ck fa fn).obs s := by
  have e : g = s.heap.get? := funext h
  rw [e]
  rfl
end Mini

set_option maxHeartbeats 4000000
/-! MINI, part 32: what is reckoned of the classes. -/
namespace Mini
open PySem PySem.Spec PyProof.Rows L2
/-- a class of errors with a dict, over ValueError -/
def oexB (K : Frag) (C : Addr) : Bool := (match K.lookup C with
  | some ⟨.type "type", _, .cls cd, sl⟩ => (match cd.mro, sl.toList with
    | .ref C' :: bm, [_, _, _, _, some (.builtin n), _] => decide (C' = C) && (decide (n = "ValueError.__new__") && (!cd.hasDel && (cd.hasDict && PySem.HandSPX.refsVE bm)))
    | _, _ => false)
  | _ => false) && (decide (PySem.W.findIn K (.ref C) "__setattr__" = some (some (.builtin "object.__setattr__"))) && (decide (PySem.W.subIn K (.ref C) (.type "BaseException") = some true) &&
    (decide (PySem.W.typeIn K (.ref C) = some (.type "type")) && PySem.W.keepIn K (.ref C))))
theorem oexB_ok {K : Frag} {C : Addr} (h : oexB K C = true) : OexC K C := by
  unfold oexB at h
  rw [Bool.and_eq_true] at h
  obtain ⟨h1, h2⟩ := h
  simp only [Bool.and_eq_true, decide_eq_true_eq] at h2
  obtain ⟨h2, h3, h4, h5⟩ := h2
  refine ⟨?_, h2, h3, h4, h5⟩
  split at h1
  · rename_i dd cd sl ho
    split at h1
    · rename_i C' bm k0 k1 k2 k3 n k5 hm hs
      simp only [Bool.and_eq_true, decide_eq_true_eq, Bool.not_eq_true'] at h1
      obtain ⟨rfl, rfl, hdel, hdict, hre⟩ := h1
      obtain ⟨nm, bs, mro, ns, qn, hd, sn, sub, ab, col, del⟩ := cd
      dsimp only at hm hdel hdict
      subst hm hdel hdict
      have hsl : sl = #[k0, k1, k2, k3, some (.builtin "ValueError.__new__"), k5] := by
        obtain ⟨l⟩ := sl
        simp only at hs
        rw [hs]
      subst hsl
      exact ⟨nm, qn, ns, bs, bm, sn, sub, ab, col, dd, k0, k1, k2, k3, k5, ho, hre⟩
    · cases h1
  · cases h1
def baseB (K : Frag) (T : Addr) : Bool := PySem.W.readsIn K T (.type "type") && (decide (PySem.W.specialIn K (.ref T) "__getattribute__" = some (some (.builtin "type.__getattribute__"))) && (match PySem.W.findCls K (.ref T) (.type "type") "__init__" with
  | some (.val (.builtin n)) => decide (n = "ValueError.__init__")
  | _ => false))
theorem baseB_ok {K : Frag} {mg : Str → Option Value} {x : Str} {T : Addr} (hm : mg x = some (.ref T)) (h : baseB K T = true) : BaseC K mg x T := by
  unfold baseB at h
  simp only [Bool.and_eq_true, decide_eq_true_eq] at h
  obtain ⟨h1, h2, h3⟩ := h
  refine ⟨hm, h1, ?_, h2⟩
  split at h3
  · rename_i n e
    have := of_decide_eq_true h3
    subst this
    exact e
  · cases h3
/-- one class with the field f: its __init__ is found, is a function; the field is no attribute of the class -/
def errB (K : Frag) (C : Addr) (f : Str) : Bool := oexB K C && (L2.xfB K C && (decide (PySem.W.findIn K (.ref C) f = some none) && (match PySem.W.findIn K (.ref C) "__init__" with
  | some (some (.ref fI)) => decide (PySem.W.typeIn K (.ref fI) = some (.type "function")) && decide (fI = He.ma K C "__init__")
  | _ => false)))
theorem errB_ok {K : Frag} {C : Addr} {f : Str} (h : errB K C f = true) : OexC K C ∧ XfC K C ∧ PySem.W.findIn K (.ref C) f = some none ∧ PySem.W.findIn K (.ref C) "__init__" = some (some (.ref (He.ma K C "__init__"))) ∧ PySem.W.typeIn K (.ref (He.ma K C "__init__")) = some (.type "function") := by
  unfold errB at h
  simp only [Bool.and_eq_true, decide_eq_true_eq] at h
  obtain ⟨h1, h2, h3, h4⟩ := h
  refine ⟨oexB_ok h1, xfB_ok h2, h3, ?_⟩
  split at h4
  · rename_i fI e
    simp only [Bool.and_eq_true, decide_eq_true_eq] at h4
    obtain ⟨h5, rfl⟩ := h4
    exact ⟨e, h5⟩
  · cases h4
end Mini

set_option maxHeartbeats 4000000
/-! MINI, part 33: the head's facts become what the defs rest on. -/
namespace Mini
open PySem PySem.Spec PyProof.Rows L2
section
variable {K : Frag} {x qual : Str} {params : Arguments} {body : List Stmt} {scope : Scope} {f : Addr} {fd : FuncData} {ps ks : List Str} {n : Nat} {q : List Nat}
/-- a def without defaults, called with names: where each value comes to stand -/
theorem kwN (F : FunD K x qual params body scope [] [] f fd)
    (h : ∀ (kV doc pm : Value) (an : Option Addr) (cdv ct : Value) (us ws zs : List Value), us.length = n → ws.length = ks.length → Mini.perm (us ++ ws) q = some zs → bindArgs (PySem.W.fnOf x qual params body scope .none kV doc pm an cdv ct) ⟨us, ks.zip ws⟩ = pure (ps.zip zs)) : KwB K fd ps n ks q := by
  obtain ⟨oc, od, dV, kV, doc, pm, an, cdv, ct, osl, rfl, lk, hcd, hD, hK⟩ := F.ex
  rcases hD with ⟨_, rfl⟩ | ⟨e, _⟩
  · exact fun s us ws zs _ l1 l2 e _ => .of_eq (h kV doc pm an cdv ct us ws zs l1 l2 e)
  · exact absurd rfl e
theorem defIn_of {mg : Str → Option Value} {Pg : Prog} {B : Tb} {e : FE} {b : List S} {dr : Keep} (F : FunD K e.name qual params body B.sc [] [] f fd) (hm : mg e.name = some (.ref f)) (S : FnScope B.N ps B.sc) (hp : ps.length = e.pars) (hf : Pg.fn e.i = some ⟨B.N.length, e.pars, b, dr⟩)
    (hc : (ckSs b B body).isSome = true) (hb : Binds K fd ps []) (hk : ∀ w ∈ e.kws, KwB K fd ps w.1 w.2.1 w.2.2) : DefIn K mg Pg B e :=
  ⟨⟨f, fd, qual, params, body, _, ps, hm, F, S, hp, hf, rfl, rfl, ((ckSs b B body).get hc).pf, hb, hk⟩⟩
end
/-- the classes of errors: name, field -/
abbrev ClsT := List (Str × Option Str)
def ctOf (K : Frag) (cls : ClsT) : CT := fun c => (cls[c]?).map fun q => (He.ga K q.1, q.2.toList)
def exmS (L : List (Str × Str × Bool)) (a b : Str) : Option Bool := (L.find? fun q => decide (q.1 = a) && decide (q.2.1 = b)).map (·.2.2)
def ckC (cls : ClsT) (L : List (Str × Str × Bool)) (K : Frag) : Bool := (cls.all fun q => match q.2 with
  | none => baseB K (He.ga K q.1)
  | some f => errB K (He.ga K q.1) f) && L.all fun q => decide (PySem.W.exmOne K (.ref (He.ga K q.1)) (.ref (He.ga K q.2.1)) = some q.2.2)
def exmC (cls : ClsT) (L : List (Str × Str × Bool)) (c k : Nat) : Option Bool := (cls[c]?).bind fun a => (cls[k]?).bind fun b => exmS L a.1 b.1
def pgOf (fs : List Fn) (cls : ClsT) (L : List (Str × Str × Bool)) : Prog := ⟨fun i => fs[i]?, exmC cls L, fun c => (cls[c]?).bind (·.2), 1000000000000⟩
theorem exm_join {K : Frag} {cls : ClsT} {L : List (Str × Str × Bool)} (h : ckC cls L K = true) {c k : Nat} {b : Bool} (e : exmC cls L c k = some b) :
    ∃ C ns C' ns', ctOf K cls c = some (C, ns) ∧ ctOf K cls k = some (C', ns') ∧ PySem.W.exmOne K (.ref C) (.ref C') = some b := by
  unfold exmC at e
  obtain ⟨p, e1, e⟩ := Option.bind_eq_some_iff.mp e
  obtain ⟨q, e2, e⟩ := Option.bind_eq_some_iff.mp e
  unfold exmS at e
  obtain ⟨r, e3, e4⟩ := Option.map_eq_some_iff.mp e
  have hm := List.mem_of_find?_eq_some e3
  have hp := List.find?_some e3
  simp only [Bool.and_eq_true, decide_eq_true_eq] at hp
  have hL := List.all_eq_true.mp (Bool.and_eq_true_iff.mp h).2 r hm
  have hL := of_decide_eq_true hL
  rw [hp.1, hp.2, e4] at hL
  exact ⟨_, _, _, _, by unfold ctOf; rw [e1]; rfl, by unfold ctOf; rw [e2]; rfl, hL⟩
theorem cls_join {K : Frag} {cls : ClsT} {L : List (Str × Str × Bool)} (h : ckC cls L K = true) {c : Nat} {x f : Str} (e : cls[c]? = some (x, some f)) : errB K (He.ga K x) f = true :=
  List.all_eq_true.mp (Bool.and_eq_true_iff.mp h).1 _ (List.mem_of_getElem? e)
theorem root_join {K : Frag} {cls : ClsT} {L : List (Str × Str × Bool)} (h : ckC cls L K = true) {c : Nat} {x : Str} (e : cls[c]? = some (x, none)) : baseB K (He.ga K x) = true :=
  List.all_eq_true.mp (Bool.and_eq_true_iff.mp h).1 _ (List.mem_of_getElem? e)
theorem fld_join {K : Frag} {cls : ClsT} {L : List (Str × Str × Bool)} (h : ckC cls L K = true) {c : Nat} {f : Str} (e : (cls[c]?).bind (·.2) = some f) :
    ∃ C, ctOf K cls c = some (C, [f]) ∧ XfC K C ∧ PySem.W.findIn K (.ref C) f = some none := by
  obtain ⟨q, e1, e2⟩ := Option.bind_eq_some_iff.mp e
  obtain ⟨x, o⟩ := q
  dsimp only at e2
  subst e2
  obtain ⟨_, h2, h3, _⟩ := errB_ok (cls_join h e1)
  exact ⟨_, by unfold ctOf; rw [e1]; rfl, h2, h3⟩
theorem fact_mem {K : Frag} {fa : List He.Fa} {fn : List He.DefD} (c : He.SaysD fa fn K) {f : He.Fa} (h : f ∈ fa) : f.ok K = true := by
  obtain ⟨i, hi⟩ := List.mem_iff_getElem?.mp h
  exact c.fact i hi
def imsB (ims : List (Str × String)) (K : Frag) : Bool := ims.all fun q => decide (PySem.W.nsIn K mainGlobals q.1 = some (some (.builtin q.2)))
theorem imsB_ok {K : Frag} {h : Heap} {mg : Str → Option Value} {ims : List (Str × String)} (X : K.In h) (G : h.Ns mainGlobals mg) (e : imsB ims K = true) : ∀ q ∈ ims, mg q.1 = some (.builtin q.2) :=
  fun q hq => PySem.W.mg_of X G (of_decide_eq_true (List.all_eq_true.mp e q hq))
/-- what a class's __init__ must be -/
def InitIs (root f : Str) (body : List Stmt) : Prop := ∃ m j p1 p2 p3 p4 p5 p6 p7 p8 p9 p10, body = initB root f m j p1 p2 p3 p4 p5 p6 p7 p8 p9 p10 ∧ (p2.endLine == p5.line) = true
theorem ex_join {P : Program} {w : World} {K : Frag} {mg : Str → Option Value} {base : Heap} {cls : ClsT} {L : List (Str × Str × Bool)} (h : ckC cls L K = true) {q : EE} {root : Str} {rc : Nat} {qual : Str} {params : Arguments} {body : List Stmt} {scope : Scope} {fd : FuncData}
    (e : cls[q.c]? = some (q.name, some q.f)) (er : cls[rc]? = some (root, none)) (hm : mg q.name = some (.ref (He.ga K q.name))) (hr : mg root = some (.ref (He.ga K root)))
    (F : FunD K "__init__" qual params body scope [] [] (He.ma K (He.ga K q.name) "__init__") fd) (hb : InitIs root q.f body) (S : FnScope [("self" : Str), q.f] [("self" : Str), q.f] scope) (b : Binds K fd [("self" : Str), q.f] [])
    (hs : (decide (scope.names.lookup root = some .globalImplicit) && (decide (scope.names.lookup ("self" : Str) = some .local) && (decide (scope.names.lookup q.f = some .local) && (!(root == ("__debug__" : Str)) && (!(q.f == ("__debug__" : Str)) && !(q.f == ("__classdict__" : Str))))))) = true) :
    ∃ C fI fd, mg q.name = some (.ref C) ∧ ctOf K cls q.c = some (C, [q.f]) ∧ OexC K C ∧ PySem.W.findIn K (.ref C) q.f = some none ∧ PySem.W.findIn K (.ref C) "__init__" = some (some (.ref fI)) ∧
    PySem.W.typeIn K (.ref fI) = some (.type "function") ∧ Binds K fd [("self" : Str), q.f] [] ∧ FnOk P w K mg base (L2.CX P w) 1 fI fd [("self" : Str), q.f] (spInit K q.f) := by
  obtain ⟨h1, h2, h3, h4, h5⟩ := errB_ok (cls_join h e)
  obtain ⟨m, j, p1, p2, p3, p4, p5, p6, p7, p8, p9, p10, rfl, hl⟩ := hb
  simp only [Bool.and_eq_true, decide_eq_true_eq, Bool.not_eq_true'] at hs
  obtain ⟨s1, s2, s3, s4, s5, s6⟩ := hs
  exact ⟨_, _, fd, hm, by unfold ctOf; rw [e]; rfl, h1, h3, h4, h5, b, init_ok F S (baseB_ok hr (root_join h er)) s1 s2 s3 s4 s5 s6 hl⟩
/-- what may be let out, whatever the world -/
def CXe (P : Program) : CXT := fun o H s E e s' => ∃ w : World, L2.CX P w o H s E e s'
theorem cxe_of {P : Program} {w : World} {K : Frag} {mg : Str → Option Value} {base : Heap} {k : Nat} {f : Addr} {fd : FuncData} {ps : List Str} {sp : Sp} (F : FnOk P w K mg base (L2.CX P w) k f fd ps sp) : FnOk P w K mg base (CXe P) k f fd ps sp := by
  refine ⟨F.len, fun A outer s H args us vs Q E hr he hb hv hs => codeAny_mono (F.run A outer s H args us vs Q E hr he hb hv hs) fun r s' h => ?_⟩
  cases r with
  | error e => exact ⟨w, h⟩
  | ok fl =>
    cases fl with
    | ret u => exact h
    | next => exact h
    | brk => exact h
    | cont => exact h
theorem cxe_no {P : Program} (H : Hp) (s : Shared) (e : Value) (s' : Shared) (h : CXe P [] H s (fun _ _ _ => False) e s') : False := by
  obtain ⟨w, h⟩ := h
  obtain ⟨_, _, _, _, _, _, _, _, _, _, _, _, hE⟩ := h
  exact hE
/-- the law's own def, with its own function object -/
theorem law_fn {P : Program} {w : World} {K : Frag} {mg : Str → Option Value} {base : Heap} {ct : CT} {Pg : Prog} {gl : List Str} {im : List (Str × String)} {ex : List EE} {hd : List (Str × Nat)} {fns : List FE} {k i : Nat} {x qual : Str} {params : Arguments} {body : List Stmt} {f : Addr} {fd : FuncData} {ps : List Str} {B : Tb} {b : List S} {dr : Keep}
    (T : TopIn P w K mg base ct Pg gl im ex hd) (ih : ∀ q ∈ fns, FnG P w K mg base ct Pg k q) (b1 : B.gl = gl) (b2 : B.fn = fns) (b3 : B.im = im) (b4 : B.cst = []) (b5 : B.ex = ex) (b6 : B.hd = hd)
    (F : FunD K x qual params body B.sc [] [] f fd) (S : FnScope B.N ps B.sc) (hf : Pg.fn i = some ⟨B.N.length, ps.length, b, dr⟩) (hc : (ckSs b B body).isSome = true) : FnOk P w K mg base (CXe P) (k + 3) f fd ps (spF K ct Pg ps.length (k + 1) i) :=
  cxe_of (fn_ok (j := k + 2) F S hf rfl rfl fun cdv A outer s H E hr => ((ckSs b B body).get hc).pf _ ct Pg k _ _ (step_ok (fns := fns) T S rfl rfl b1 b2 b3 b4 b5 b6 hr ih) fun _ _ => trivial)
end Mini

/-! MINI, part 34: the evaluator's equations, for the pure parts. -/
namespace Mini
open PySem (Str PyData)
section
variable {α β : Type} {S S' : Store} {cx : Cx} {ρ : Env}
/-- an equation that is not to be unfolded -/
theorem nr {γ : Sort _} {a b : γ} (h : a = b) : a = b := by subst h; exact Eq.symm (Eq.symm rfl)
@[simp ↓] theorem bnd_def (m : M α) (f : α → M β) : bnd m f S = (match m S with
  | .ok a S' => f a S'
  | .err c fs S' => .err c fs S'
  | .bad => .bad) := nr rfl
@[simp ↓] theorem ret_def (a : α) : ret a S = .ok a S := nr rfl
@[simp ↓] theorem bad_def : (bad : M α) S = .bad := nr rfl
@[simp ↓] theorem lift_some (a : α) : lift (some a) = ret a := nr rfl
@[simp ↓] theorem lift_none : lift (none : Option α) = bad := nr rfl
@[simp ↓] theorem look_def (f : Store → Option α) : look f S = (match f S with
  | some a => .ok a S
  | none => .bad) := nr rfl
@[simp ↓] theorem ite_app {c : Prop} [Decidable c] (m n : M α) : (if c then m else n) S = if c then m S else n S := by split <;> rfl
@[simp ↓] theorem noerr_def (m : M α) : noerr m S = (match m S with
  | .ok a S' => .ok a S'
  | .err _ _ _ => .bad
  | .bad => .bad) := by unfold noerr; cases m S <;> rfl
@[simp ↓] theorem ev_var (i : Nat) : ev cx (.var i) ρ = lift (getV ρ i) := by rw [ev]
@[simp ↓] theorem ev_k (d : D) : ev cx (.k d) ρ = ret d := by rw [ev]
@[simp ↓] theorem ev_dct0 : ev cx .dct0 ρ = ret (.dct [] []) := by rw [ev]
@[simp ↓] theorem ev_tup (es : List E) : ev cx (.tup es) ρ = bnd (evs cx es ρ) fun ds => if ds.length ≤ line then ret (.tup ds) else bad := by rw [ev]
@[simp ↓] theorem ev_new (m : Mode) (f : F) : ev cx (.new m f) ρ = bnd (evF cx f ρ) fun o => place m o := by rw [ev]
@[simp ↓] theorem ev_bin (op : Bop) (a b : E) : ev cx (.bin op a b) ρ = bnd (ev cx a ρ) fun x => bnd (ev cx b ρ) fun y => look (op.ev x y) := by rw [ev]; simp only [lookD_eq]
@[simp ↓] theorem ev_neg (a : E) : ev cx (.neg a) ρ = bnd (ev cx a ρ) fun x => match x with
    | .int i => ret (.int (-i))
    | _ => bad := by
  rw [ev]
  congr 1; funext x
  cases x <;> simp
@[simp ↓] theorem ev_cmp (op : Cop) (a b : E) : ev cx (.cmp op a b) ρ = bnd (ev cx a ρ) fun x => bnd (ev cx b ρ) fun y => bnd (look (op.ev x y)) fun k => ret (.bl k) := by rw [ev]; simp only [retD_eq]
@[simp ↓] theorem ev_chain (o1 o2 : Cop) (a b c : E) : ev cx (.chain o1 o2 a b c) ρ = bnd (ev cx a ρ) fun x => bnd (ev cx b ρ) fun y => bnd (look (o1.ev x y)) fun k =>
    if k then bnd (ev cx c ρ) fun z => bnd (look (o2.ev y z)) fun k2 => ret (.bl k2) else ret (.bl false) := by rw [ev]; simp only [retD_eq]
@[simp ↓] theorem ev_and (es : List E) : ev cx (.and es) ρ = evAnd cx es ρ := by rw [ev]
@[simp ↓] theorem ev_or (es : List E) : ev cx (.or es) ρ = evOr cx es ρ := by rw [ev]
@[simp ↓] theorem ev_not (a : E) : ev cx (.not a) ρ = bnd (ev cx a ρ) fun x => bnd (look (truth x)) fun k => ret (.bl (!k)) := by rw [ev]; simp only [retD_eq]
@[simp ↓] theorem ev_ite (c a b : E) : ev cx (.ite c a b) ρ = bnd (ev cx c ρ) fun x => bnd (look (truth x)) fun k => if k then ev cx a ρ else ev cx b ρ := by rw [ev]
@[simp ↓] theorem ev_call (f : Nat) (es : List E) : ev cx (.call f es) ρ = bnd (evs cx es ρ) fun ds => cx.call f ds := by rw [ev]
@[simp ↓] theorem ev_callk (f : Nat) (es kes : List E) (ks : List Str) (p : List Nat) : ev cx (.callk f es kes ks p) ρ = bnd (evs cx es ρ) fun ds => bnd (evs cx kes ρ) fun zs => if ds.length = es.length ∧ zs.length = ks.length then bnd (lift (perm (ds ++ zs) p)) fun as => cx.call f as else bad := by rw [ev]
@[simp ↓] theorem ev_isi (e : E) (ts : List Ty) : ev cx (.isi e ts) ρ = bnd (ev cx e ρ) fun x => bnd (look (tyOf x)) fun t => ret (.bl (ts.any fun u => t.sub u)) := by rw [ev]; simp only [retD_eq]
@[simp ↓] theorem ev_bi (b : Bi) (es : List E) : ev cx (.bi b es) ρ = bnd (evs cx es ρ) fun ds => look (b.ev ds) := by rw [ev]; simp only [lookD_eq]
@[simp ↓] theorem ev_mth (m : Mt) (o : E) (es : List E) : ev cx (.mth m o es) ρ = bnd (ev cx o ρ) fun x => bnd (look (lstOf x)) fun _ => bnd (evs cx es ρ) fun ds => mthD m x ds := by rw [ev]
@[simp ↓] theorem ev_ix (a i : E) : ev cx (.ix a i) ρ = bnd (ev cx a ρ) fun x => bnd (ev cx i ρ) fun y => look (ixD x y) := by rw [ev]
@[simp ↓] theorem ev_slc (a : E) (lo hi : Option E) : ev cx (.slc a lo hi) ρ = bnd (ev cx a ρ) fun x => bnd (evo cx lo ρ) fun l => bnd (evo cx hi ρ) fun h => look (slcD x l h) := by rw [ev]; simp only [lookD_eq]
@[simp ↓] theorem evs_nil : evs cx [] ρ = ret [] := by rw [evs]
@[simp ↓] theorem evs_star (a : E) (es : List E) : evs cx (.star a :: es) ρ = bnd (ev cx a ρ) fun x => bnd (look (seqOf x)) fun xs => bnd (evs cx es ρ) fun ys => ret (xs ++ ys) := by rw [evs]
def notStar : E → Bool
  | .star _ => false
  | _ => true
theorem evs_cons' (e : E) (es : List E) (h : notStar e = true) : evs cx (e :: es) ρ = bnd (ev cx e ρ) fun x => bnd (evs cx es ρ) fun xs => ret (x :: xs) := by
  cases e <;> first | (rw [evs]; intro a ha; cases ha; done) | (rw [evs]; done) | cases h
@[simp ↓] theorem evs_c (e : E) (es : List E) : evs cx (e :: es) ρ = match e with
    | .star a => bnd (ev cx a ρ) fun x => bnd (look (seqOf x)) fun xs => bnd (evs cx es ρ) fun ys => ret (xs ++ ys)
    | e => bnd (ev cx e ρ) fun x => bnd (evs cx es ρ) fun xs => ret (x :: xs) := by
  cases e <;> first | (rw [evs_cons' _ _ rfl]) | (rw [evs])
@[simp ↓] theorem evo_none : evo cx none ρ = ret none := by rw [evo]
@[simp ↓] theorem evo_some (e : E) : evo cx (some e) ρ = bnd (ev cx e ρ) fun x => bnd (lift (asInt x)) fun i => ret (some i) := by rw [evo]
@[simp ↓] theorem evAnd_nil : evAnd cx [] ρ = bad := by rw [evAnd]
@[simp ↓] theorem evAnd_one (e : E) : evAnd cx [e] ρ = ev cx e ρ := by rw [evAnd]
@[simp ↓] theorem evAnd_cons (e e2 : E) (es : List E) : evAnd cx (e :: e2 :: es) ρ = bnd (ev cx e ρ) fun x => bnd (look (truth x)) fun k => if k then evAnd cx (e2 :: es) ρ else ret x := by rw [evAnd]; simp
@[simp ↓] theorem evOr_nil : evOr cx [] ρ = bad := by rw [evOr]
@[simp ↓] theorem evOr_one (e : E) : evOr cx [e] ρ = ev cx e ρ := by rw [evOr]
@[simp ↓] theorem evOr_cons (e e2 : E) (es : List E) : evOr cx (e :: e2 :: es) ρ = bnd (ev cx e ρ) fun x => bnd (look (truth x)) fun k => if k then ret x else evOr cx (e2 :: es) ρ := by rw [evOr]; simp
@[simp ↓] theorem evIfs_nil : evIfs cx [] ρ = ret true := by rw [evIfs]
@[simp ↓] theorem evIfs_cons (e : E) (es : List E) : evIfs cx (e :: es) ρ = bnd (ev cx e ρ) fun x => bnd (look (truth x)) fun k => if k then evIfs cx es ρ else ret false := by rw [evIfs]
@[simp ↓] theorem evF_disp (es : List E) : evF cx (.disp es) ρ = bnd (evs cx es ρ) fun ds => if ds.length ≤ line then ret (.l ds) else bad := by rw [evF]
theorem evF_lc (own : List Nat) (elt : E) (t : T) (it : I) (ifs : List E) (gs : List G) : evF cx (.lc own elt t it ifs gs) ρ = bnd (evI cx it ρ) fun xs => bnd (noerr (flatMapM (fun x => bnd (asgT t x (wipe ρ own)) fun ρ' => bnd (evIfs cx ifs ρ') fun k =>
      if k then evG cx gs (fun ρ2 => bnd (ev cx elt ρ2) fun d => ret [d]) ρ' else ret []) xs)) fun ds => if ds.length ≤ line then ret (.l ds) else bad := by rw [evF]
@[simp ↓] theorem evF_listOf (e : E) : evF cx (.listOf e) ρ = bnd (ev cx e ρ) fun x => bnd (look (seqOf x)) fun xs => ret (.l xs) := by rw [evF]; simp only [retE_eq]; try rfl
@[simp ↓] theorem evF_cat (a b : E) : evF cx (.cat a b) ρ = bnd (ev cx a ρ) fun x => bnd (ev cx b ρ) fun y => bnd (look (lstOf x)) fun xs => bnd (look (lstOf y)) fun ys => if xs.length + ys.length ≤ line then ret (.l (xs ++ ys)) else bad := by rw [evF]; simp only [retE_eq]; try rfl
@[simp ↓] theorem evF_rep (a n : E) : evF cx (.rep a n) ρ = bnd (ev cx a ρ) fun x => bnd (ev cx n ρ) fun y => bnd (look (lstOf x)) fun xs => bnd (lift (asInt y)) fun k =>
      if -1000000000 < k ∧ k < 1000000000 ∧ xs.length * k.toNat ≤ line then ret (.l (repL xs k.toNat)) else bad := by rw [evF]; simp only [retE_eq]; try rfl
@[simp ↓] theorem evF_slice (a : E) (lo hi : Option E) : evF cx (.slice a lo hi) ρ = bnd (ev cx a ρ) fun x => bnd (evo cx lo ρ) fun l => bnd (evo cx hi ρ) fun h => bnd (look (slcOf x)) fun xs => ret (.l (cut xs l h)) := by rw [evF]; simp only [retE_eq]; try rfl
@[simp ↓] theorem evG_nil (elt : Env → M (List D)) : evG cx [] elt ρ = elt ρ := by rw [evG]
@[simp ↓] theorem evG_cons (own : List Nat) (t : T) (it : I) (ifs : List E) (gs : List G) (elt : Env → M (List D)) : evG cx (.mk own t it ifs :: gs) elt ρ = bnd (evI cx it ρ) fun xs => flatMapM (fun x => bnd (asgT t x (wipe ρ own)) fun ρ' => bnd (evIfs cx ifs ρ') fun k => if k then evG cx gs elt ρ' else ret []) xs := by rw [evG]
@[simp ↓] theorem evI_seq (e : E) : evI cx (.seq e) ρ = bnd (ev cx e ρ) fun x => lift (frzOf x) := by
  rw [evI]; congr 1; funext x; cases frzOf x <;> rfl
@[simp ↓] theorem evI_range1 (e : E) : evI cx (.range1 e) ρ = bnd (ev cx e ρ) fun x => bnd (lift (asInt x)) fun j => if rangeOk j then ret (rangeL 0 j) else bad := by rw [evI]; simp only [retL_eq]
@[simp ↓] theorem evI_range2 (a b : E) : evI cx (.range2 a b) ρ = bnd (ev cx a ρ) fun x => bnd (ev cx b ρ) fun y => bnd (lift (asInt x)) fun i => bnd (lift (asInt y)) fun j => if rangeOk i && rangeOk j then ret (rangeL i j) else bad := by rw [evI]; simp only [retL_eq]
def frzE : D → Option (List D)
  | .str _ => none
  | .dct _ _ => none
  | d => frzOf d
@[simp ↓] theorem evI_enum (e : E) : evI cx (.enum e) ρ = bnd (ev cx e ρ) fun x => bnd (lift (frzE x)) fun xs => ret (((List.range xs.length).zip xs).map fun p => D.tup [.int (p.1 : Nat), p.2]) := by
  rw [evI]; congr 1
@[simp ↓] theorem flatMapM_nil (f : D → M (List D)) : flatMapM f [] = ret [] := by rw [flatMapM]
@[simp ↓] theorem flatMapM_cons (f : D → M (List D)) (x : D) (xs : List D) : flatMapM f (x :: xs) = bnd (f x) fun a => bnd (flatMapM f xs) fun b => ret (a ++ b) := by rw [flatMapM]; simp only [retE_eq]
@[simp ↓] theorem asgT_def (t : T) (d : D) : asgT t d ρ = lift (asgO t d ρ) := by
  unfold asgT; funext S; simp; cases asgO t d ρ <;> rfl
@[simp ↓] theorem asgO_name (i : Nat) (d : D) : asgO (.name i) d ρ = if i < ρ.length then some (ρ.set i (.val d)) else none := by rw [asgO]
@[simp ↓] theorem asgO_tup (ts : List T) (d : D) : asgO (.tup ts) d ρ = (match d with
    | .tup xs => asgOs ts xs ρ
    | _ => none) := by cases d <;> rw [asgO] <;> (intro xs h; cases h)
@[simp ↓] theorem asgOs_nil : asgOs [] [] ρ = some ρ := by rw [asgOs]
@[simp ↓] theorem asgOs_cons (t : T) (ts : List T) (x : D) (xs : List D) : asgOs (t :: ts) (x :: xs) ρ = (asgO t x ρ).bind fun ρ' => asgOs ts xs ρ' := by rw [asgOs]
@[simp ↓] theorem exSs_nil : exSs cx [] ρ = ret (.nx ρ) := by rw [exSs]
@[simp ↓] theorem exSs_c (s : Mini.S) (ss : List Mini.S) : exSs cx (s :: ss) ρ = bnd (exS cx s ρ) fun f => match f with
    | .nx ρ' => exSs cx ss ρ'
    | f => ret f := by rw [exSs]; try rfl
@[simp ↓] theorem exS_asg (t : T) (e : E) : exS cx (.asg t e) ρ = bnd (ev cx e ρ) fun d => bnd (lift (asgO t d ρ)) fun ρ' => ret (.nx ρ') := by rw [exS]; simp
@[simp ↓] theorem setAt_def (i : Nat) (s : Slot) : setAt ρ i s = if i < ρ.length then ret (ρ.set i s) else bad := by unfold setAt; simp only [retE_eq]
@[simp ↓] theorem setAll_nil : setAll ρ [] [] = ret ρ := by rw [setAll]
@[simp ↓] theorem setAll_cons (i : Nat) (is : List Nat) (s : Slot) (ss : List Slot) : setAll ρ (i :: is) (s :: ss) = bnd (setAt ρ i s) fun ρ' => setAll ρ' is ss := by rw [setAll]
@[simp ↓] theorem exS_own (i : Nat) (f : F) : exS cx (.own i f) ρ = bnd (evF cx f ρ) fun o => bnd (setAt ρ i (slotOf o)) fun ρ' => ret (.nx ρ') := by rw [exS]
@[simp ↓] theorem exS_frz (i : Nat) : exS cx (.frz i) ρ = (match ρ[i]? with
    | some s => ret (.nx (ρ.set i (frzS s)))
    | none => bad) := by rw [exS]; try rfl
@[simp ↓] theorem exS_par (ts : List Nat) (ps : List P) : exS cx (.par ts ps) ρ = bnd (evP cx ps ρ) fun ss => bnd (setAll ρ ts ss) fun ρ' => ret (.nx ρ') := by rw [exS]
@[simp ↓] theorem evP_nil : evP cx [] ρ = ret [] := by rw [evP]
@[simp ↓] theorem evP_val (e : E) (ps : List P) : evP cx (.val e :: ps) ρ = bnd (ev cx e ρ) fun d => bnd (evP cx ps ρ) fun ss => ret (.val d :: ss) := by rw [evP]
@[simp ↓] theorem evP_own (f : F) (ps : List P) : evP cx (.own f :: ps) ρ = bnd (evF cx f ρ) fun o => bnd (evP cx ps ρ) fun ss => ret (slotOf o :: ss) := by rw [evP]
@[simp ↓] theorem exS_app (i : Nat) (e : E) : exS cx (.app i e) ρ = (match ρ[i]? with
    | some (.own xs) => bnd (ev cx e ρ) fun d => if xs.length < line then ret (.nx (ρ.set i (.own (xs ++ [d])))) else bad
    | _ => bad) := by rw [exS]; simp only [retE_eq]; try rfl
@[simp ↓] theorem exS_ext (i : Nat) (e : E) : exS cx (.ext i e) ρ = (match ρ[i]? with
    | some (.own xs) => bnd (ev cx e ρ) fun d => bnd (look (lstOf d)) fun ys => if xs.length + ys.length ≤ line then ret (.nx (ρ.set i (.own (xs ++ ys)))) else bad
    | _ => bad) := by rw [exS]; simp only [retE_eq]; try rfl
@[simp ↓] theorem exS_setC (o ix e : E) : exS cx (.setC o ix e) ρ = bnd (ev cx e ρ) fun d => bnd (ev cx o ρ) fun x => bnd (ev cx ix ρ) fun k => (match x with
    | .loc l => fun S => match S[l]? with
      | some c => (match setCell c k d with
        | some c' => .ok (.nx ρ) (S.set l c')
        | none => .bad)
      | none => .bad
    | _ => bad) := by rw [exS]; try rfl
@[simp ↓] theorem exS_ex (e : E) : exS cx (.ex e) ρ = bnd (ev cx e ρ) fun _ => ret (.nx ρ) := by rw [exS]
@[simp ↓] theorem exS_ret (e : E) : exS cx (.ret e) ρ = bnd (ev cx e ρ) fun d => ret (.rt d) := by rw [exS]
@[simp ↓] theorem exS_retO (i : Nat) (m : Mode) : exS cx (.retO i m) ρ = (match ρ[i]? with
    | some (.own xs) => bnd (place m (.l xs)) fun d => ret (.rt d)
    | some (.ownD ks vs) => bnd (place m (.d ks vs)) fun d => ret (.rt d)
    | _ => bad) := by rw [exS]; try rfl
@[simp ↓] theorem exS_iff (c : E) (a b : List Mini.S) : exS cx (.iff c a b) ρ = bnd (ev cx c ρ) fun x => bnd (look (truth x)) fun k => if k then exSs cx a ρ else exSs cx b ρ := by rw [exS]
theorem exS_for (t : T) (it : I) (b : List Mini.S) : exS cx (.for t it b) ρ = bnd (evI cx it ρ) fun xs => forM (fun x ρ' => bnd (asgT t x ρ') fun ρ2 => exSs cx b ρ2) xs ρ := by rw [exS]
theorem exS_forL (t : T) (e : E) (b : List Mini.S) : exS cx (.forL t e b) ρ = bnd (ev cx e ρ) fun d => (match d with
    | .loc l => liveM (fun x ρ' => bnd (asgT t x ρ') fun ρ2 => exSs cx b ρ2) l cx.fuel 0 ρ
    | _ => bad) := by rw [exS]; try rfl
theorem exS_whl (c : E) (b : List Mini.S) : exS cx (.whl c b) ρ = whlM (fun ρ' => bnd (ev cx c ρ') fun x => look (truth x)) (fun ρ' => exSs cx b ρ') cx.fuel ρ := by rw [exS]
@[simp ↓] theorem exS_raise (c : Nat) (es : List E) : exS cx (.raise c es) ρ = bnd (evs cx es ρ) fun ds => fun S => .err c ds S := by rw [exS]
@[simp ↓] theorem exS_try (b : List Mini.S) (hs : List Hd) : exS cx (.try b hs) ρ S = (match exSs cx b ρ S with
    | .err c fs S' => exH cx ρ.length hs c fs S'
    | .ok a S' => .ok a S'
    | .bad => .bad) := by rw [exS]; dsimp only; cases exSs cx b ρ S <;> rfl
@[simp ↓] theorem exS_brk : exS cx .brk ρ = ret (.bk ρ) := by rw [exS]
@[simp ↓] theorem exS_cnt : exS cx .cnt ρ = ret (.ct ρ) := by rw [exS]
@[simp ↓] theorem exS_pass : exS cx .pass ρ = ret (.nx ρ) := by rw [exS]
@[simp ↓] theorem exH_nil (n c : Nat) (fs : List D) : exH cx n [] c fs S = .err c fs S := by rw [exH]
@[simp ↓] theorem exH_cons (n : Nat) (h : Hd) (hs : List Hd) (c : Nat) (fs : List D) : exH cx n (h :: hs) c fs = bnd (lift (cx.exm c h.c)) fun t => if t then hcM cx n h.hc c fs else exH cx n hs c fs := by rw [exH]
@[simp ↓] theorem hcM_fld (n c : Nat) (m : Mode) (w f : Str) (i : Nat) (d : D) : hcM cx n (.fld m w f i) c [d] = if cx.fld c = some f ∧ i < n then bnd (place m (.l [.str w, d])) fun x => ret (.rt x) else bad := by rw [hcM]
@[simp ↓] theorem hcM_kl (n c : Nat) (m : Mode) (ds fs : List D) : hcM cx n (.kl m ds) c fs = if ds.length ≤ line then bnd (place m (.l ds)) fun x => ret (.rt x) else bad := by rw [hcM]
@[simp ↓] theorem hcM_k1 (n c : Nat) (d : D) (fs : List D) : hcM cx n (.k1 d) c fs = ret (.rt d) := by rw [hcM]
@[simp ↓] theorem forM_nil (b : D → Env → M Fl) : forM b [] ρ = ret (.nx ρ) := by rw [forM]
@[simp ↓] theorem place_frz (xs : List D) : place .frz (.l xs) = ret (.lst xs) := nr rfl
@[simp ↓] theorem place_cell (xs : List D) : place .cell (.l xs) S = .ok (.loc S.length) (S ++ [.lst xs]) := nr rfl
theorem forM_cons (b : D → Env → M Fl) (x : D) (xs : List D) : forM b (x :: xs) ρ = bnd (b x ρ) fun f => match f with
    | .nx ρ' => forM b xs ρ'
    | .ct ρ' => forM b xs ρ'
    | .bk ρ' => ret (.nx ρ')
    | .rt d => ret (.rt d) := by rw [forM]; try rfl
end
/-- a call, by its def -/
def endOf : R Fl → R D
  | .ok (.rt d) S => .ok d S
  | .ok (.nx _) S => .ok .non S
  | .ok (.bk _) _ => .bad
  | .ok (.ct _) _ => .bad
  | .err c fs S => .err c fs S
  | .bad => .bad
@[simp ↓] theorem endOf_rt (d : D) (S : Store) : endOf (.ok (.rt d) S) = .ok d S := nr rfl
@[simp ↓] theorem endOf_nx (ρ : Env) (S : Store) : endOf (.ok (.nx ρ) S) = .ok .non S := nr rfl
@[simp ↓] theorem endOf_err (c : Nat) (fs : List D) (S : Store) : endOf (.err c fs S) = .err c fs S := nr rfl
def cxk (P : Prog) (k : Nat) : Cx := ⟨run P k, P.exm, P.fld, P.fuel⟩
@[simp ↓] theorem cxk_call (P : Prog) (k : Nat) : (cxk P k).call = run P k := nr rfl
@[simp ↓] theorem cxk_exm (P : Prog) (k : Nat) : (cxk P k).exm = P.exm := nr rfl
@[simp ↓] theorem cxk_fld (P : Prog) (k : Nat) : (cxk P k).fld = P.fld := nr rfl
@[simp ↓] theorem cxk_fuel (P : Prog) (k : Nat) : (cxk P k).fuel = P.fuel := nr rfl
theorem bnd_outOf (m : M Fl) (S : Store) : bnd m outOf S = endOf (m S) := by
  unfold bnd
  cases m S with
  | ok f S' => cases f <;> rfl
  | err c fs S' => rfl
  | bad => rfl
theorem run_all {P : Prog} {k i : Nat} {fn : Fn} {as : List D} {S : Store} (hf : P.fn i = some fn) (hl : as.length = fn.pars) (hk : fn.keep = .all) : run P (k + 1) i as S = endOf (exSs (cxk P k) fn.body (start fn as) S) := by
  rw [run_eq hf hl]
  unfold bodyM
  rw [hk]
  exact bnd_outOf _ _
theorem run_iso {P : Prog} {k i : Nat} {fn : Fn} {as : List D} {S : Store} {m : Mode} (hf : P.fn i = some fn) (hl : as.length = fn.pars) (hk : fn.keep = .iso m) (hb : belows 0 as = true) : run P (k + 1) i as S = (match endOf (exSs (cxk P k) fn.body (start fn as) []) with
    | .ok d S' => isoEnd m d S' S
    | .err c fs _ => if belows 0 fs then .err c fs S else .bad
    | .bad => .bad) := by
  rw [run_eq hf hl]
  unfold bodyM
  rw [hk]
  dsimp only
  rw [if_pos hb]
  unfold isoM
  rw [bnd_outOf]
  rfl
/-- comprehensions whose turns change nothing -/
theorem flatMapM_pure {f : D → M (List D)} {g : D → List D} {S : Store} : ∀ {xs : List D}, (∀ x ∈ xs, f x S = .ok (g x) S) → flatMapM f xs S = .ok (xs.flatMap g) S
  | [], _ => rfl
  | x :: xs, h => by
    rw [flatMapM_cons, bnd_def, h x (by simp)]
    simp only [bnd_def, flatMapM_pure (fun y hy => h y (List.mem_cons_of_mem _ hy)), ret_def, List.flatMap_cons]
theorem flatMapM_map {f : D → M (List D)} {g : D → D} {S : Store} {xs : List D} (h : ∀ x ∈ xs, f x S = .ok [g x] S) : flatMapM f xs S = .ok (xs.map g) S := by
  rw [flatMapM_pure h, List.map_eq_flatMap]
theorem flatMapM_filter {f : D → M (List D)} {p : D → Bool} {S : Store} {xs : List D} (h : ∀ x ∈ xs, f x S = .ok (if p x then [x] else []) S) : flatMapM f xs S = .ok (xs.filter p) S := by
  rw [flatMapM_pure h]
  congr 1
  induction xs with
  | nil => rfl
  | cons x xs ih =>
    rw [List.flatMap_cons, ih fun y hy => h y (List.mem_cons_of_mem _ hy), List.filter_cons]
    cases p x <;> rfl
/-- one turn of a comprehension -/
def turnE (cx : Cx) (own : List Nat) (elt : E) (t : T) (ifs : List E) (gs : List G) (ρ : Env) (x : D) : M (List D) := bnd (lift (asgO t x (wipe ρ own))) fun ρ' => bnd (evIfs cx ifs ρ') fun k =>
      if k then evG cx gs (fun ρ2 => bnd (ev cx elt ρ2) fun d => ret [d]) ρ' else ret []
theorem lc_pure {cx : Cx} {own : List Nat} {elt : E} {t : T} {it : I} {ifs : List E} {gs : List G} {ρ : Env} {S : Store} {xs : List D} {g : D → List D} (hi : evI cx it ρ S = .ok xs S) (h : ∀ x ∈ xs, turnE cx own elt t ifs gs ρ x S = .ok (g x) S) (hl : (xs.flatMap g).length ≤ line) :
    evF cx (.lc own elt t it ifs gs) ρ S = .ok (.l (xs.flatMap g)) S := by
  rw [evF_lc, bnd_def, hi]
  have e := flatMapM_pure (f := fun x => bnd (asgT t x (wipe ρ own)) fun ρ' => bnd (evIfs cx ifs ρ') fun k =>
      if k then evG cx gs (fun ρ2 => bnd (ev cx elt ρ2) fun d => ret [d]) ρ' else ret []) (g := g) (S := S) (xs := xs) (fun x hx => by have := h x hx; unfold turnE at this; simpa only [asgT_def] using this)
  simp only [bnd_def, noerr_def, e, if_pos hl, ret_def]
theorem lc_map {cx : Cx} {own : List Nat} {elt : E} {t : T} {it : I} {ifs : List E} {gs : List G} {ρ : Env} {S : Store} {xs : List D} {g : D → D} (hi : evI cx it ρ S = .ok xs S) (h : ∀ x ∈ xs, turnE cx own elt t ifs gs ρ x S = .ok [g x] S) (hl : xs.length ≤ line) :
    evF cx (.lc own elt t it ifs gs) ρ S = .ok (.l (xs.map g)) S := by
  have := lc_pure (g := fun x => [g x]) hi h (by rw [← List.map_eq_flatMap, List.length_map]; exact hl)
  rw [this, List.map_eq_flatMap]
theorem filter_flat {α : Type} {p : α → Bool} : ∀ xs : List α, (xs.flatMap fun x => if p x then [x] else []) = xs.filter p
  | [] => rfl
  | x :: xs => by
    rw [List.flatMap_cons, filter_flat xs, List.filter_cons]
    cases p x <;> rfl
theorem lc_filter {cx : Cx} {own : List Nat} {elt : E} {t : T} {it : I} {ifs : List E} {gs : List G} {ρ : Env} {S : Store} {xs : List D} {p : D → Bool} (hi : evI cx it ρ S = .ok xs S) (h : ∀ x ∈ xs, turnE cx own elt t ifs gs ρ x S = .ok (if p x then [x] else []) S) (hl : xs.length ≤ line) :
    evF cx (.lc own elt t it ifs gs) ρ S = .ok (.l (xs.filter p)) S := by
  have := lc_pure (g := fun x => if p x then [x] else []) hi h (by rw [filter_flat]; exact Nat.le_trans (List.length_filter_le _ _) hl)
  rw [this, filter_flat]
theorem flat_nil {α β : Type} : ∀ xs : List α, xs.flatMap (fun _ => ([] : List β)) = []
  | [] => rfl
  | _ :: xs => by rw [List.flatMap_cons, flat_nil xs]; rfl
theorem lc_none {cx : Cx} {own : List Nat} {elt : E} {t : T} {it : I} {ifs : List E} {gs : List G} {ρ : Env} {S : Store} {xs : List D} (hi : evI cx it ρ S = .ok xs S) (h : ∀ x ∈ xs, turnE cx own elt t ifs gs ρ x S = .ok [] S) :
    evF cx (.lc own elt t it ifs gs) ρ S = .ok (.l []) S := by
  have := lc_pure (g := fun _ => []) hi h (by rw [flat_nil]; exact Nat.zero_le _)
  rw [this, flat_nil]
section
variable {S S1 S2 : Store} {ρ ρ' : Env}
theorem whl_step {c : Env → M Bool} {b : Env → M Fl} {n : Nat} (hc : c ρ S = .ok true S1) (hb : b ρ S1 = .ok (.nx ρ') S2) : whlM c b (n + 1) ρ S = whlM c b n ρ' S2 := by
  rw [whlM]
  simp [hc, hb]
theorem whl_end {c : Env → M Bool} {b : Env → M Fl} {n : Nat} (hc : c ρ S = .ok false S1) : whlM c b (n + 1) ρ S = .ok (.nx ρ) S1 := by
  rw [whlM]
  simp [hc]
theorem for_step {b : D → Env → M Fl} {x : D} {xs : List D} (hb : b x ρ S = .ok (.nx ρ') S1) : forM b (x :: xs) ρ S = forM b xs ρ' S1 := by
  rw [forM_cons]
  simp [hb]
theorem for_ret {b : D → Env → M Fl} {x d : D} {xs : List D} (hb : b x ρ S = .ok (.rt d) S1) : forM b (x :: xs) ρ S = .ok (.rt d) S1 := by
  rw [forM_cons]
  simp [hb]
theorem for_end {b : D → Env → M Fl} : forM b [] ρ S = .ok (.nx ρ) S := by rw [forM]; try rfl
/-- one turn of a for -/
def bodyF (cx : Cx) (t : T) (b : List Mini.S) (x : D) (ρ : Env) : M Fl := bnd (lift (asgO t x ρ)) fun ρ2 => exSs cx b ρ2
theorem exS_forB {cx : Cx} (t : T) (it : I) (b : List Mini.S) : exS cx (.for t it b) ρ = bnd (evI cx it ρ) fun xs => forM (bodyF cx t b) xs ρ := by
  rw [exS_for]
  congr 1
  funext xs
  congr 1
  funext x ρ'
  unfold bodyF
  rw [asgT_def]
end
end Mini

/-! MINI, part 35: the defs that every law has. -/
namespace Mini
open PySem (Str PyData)
/-- the law's box at l; b: a bound of its count -/
def Bx (S : Store) (l b : Nat) : Prop := ∃ a bb c n, S[l]? = some (.lst [.int a, .bl bb, .int c, .int n]) ∧ 0 ≤ a ∧ 0 ≤ c ∧ c < 2147483629 ∧ 0 ≤ n ∧ n ≤ b
theorem Bx.mono {S : Store} {l b b' : Nat} (h : Bx S l b) (e : b ≤ b') : Bx S l b' := by
  obtain ⟨a, bb, c, n, h1, h2, h3, h4, h5, h6⟩ := h
  exact ⟨a, bb, c, n, h1, h2, h3, h4, h5, by omega⟩
theorem Bx.lt {S : Store} {l b : Nat} (h : Bx S l b) : l < S.length := by
  obtain ⟨a, bb, c, n, h1, _⟩ := h
  exact (List.getElem?_eq_some_iff.mp h1).1
/-- what stood stands, but at l -/
structure Keeps (l : Nat) (S S' : Store) : Prop where
  len : S.length ≤ S'.length
  get : ∀ i, i < S.length → i ≠ l → S'[i]? = S[i]?
theorem Keeps.refl {l : Nat} {S : Store} : Keeps l S S := ⟨Nat.le_refl _, fun _ _ _ => rfl⟩
theorem Keeps.trans {l : Nat} {S S' S'' : Store} (a : Keeps l S S') (b : Keeps l S' S'') : Keeps l S S'' :=
  ⟨Nat.le_trans a.len b.len, fun i h n => (b.get i (Nat.lt_of_lt_of_le h a.len) n).trans (a.get i h n)⟩
theorem Keeps.set {l : Nat} {S : Store} {c : Cell} : Keeps l S (S.set l c) := ⟨by simp, fun i _ n => List.getElem?_set_ne (Ne.symm n)⟩
theorem Keeps.app {l : Nat} {S T : Store} : Keeps l S (S ++ T) := ⟨by simp, fun i h _ => List.getElem?_append_left h⟩
theorem log2_lt {n : Nat} (h : n < 2 ^ 4096) : n.log2 < 4096 := by
  by_cases e : n = 0
  · subst e; decide
  · exact (Nat.log2_lt e).mpr h
theorem mulOk_of {i j : Int} (hi : i.natAbs < 2 ^ 4096) (hj : j.natAbs < 2 ^ 4096) : mulOk i j = true := by
  unfold mulOk
  have a := log2_lt hi
  have b := log2_lt hj
  exact decide_eq_true (by omega)
theorem divOk_of {j : Int} (hi : 0 < j) (hj : j.natAbs < 2 ^ 4096) : divOk j = true := by
  unfold divOk
  have b := log2_lt hj
  rw [Bool.and_eq_true]
  exact ⟨decide_eq_true hi, decide_eq_true (by omega)⟩
theorem powOk_of {i j : Int} (h0 : 0 ≤ j) (h1 : j ≤ 1000000) (hi : i.natAbs < 2 ^ 64) : powOk i j = true := by
  unfold powOk
  rw [Bool.and_eq_true, Bool.and_eq_true]
  exact ⟨⟨decide_eq_true h0, decide_eq_true h1⟩, decide_eq_true hi⟩
def bTake (c1 c2 : Int) : List S := [.iff (.and [(.ix (.var 0) (.k (.int 1))), (.cmp .gt (.ix (.var 0) (.k (.int 0))) (.k (.int 0)))]) [.asg (.name 3) (.bin .mod (.bi .int [(.ix (.var 0) (.k (.int 0)))]) (.var 1)), .setC (.var 0) (.k (.int 0)) (.bin .fdiv (.ix (.var 0) (.k (.int 0))) (.var 1)), .ret (.var 3)] [], .setC (.var 0) (.k (.int 3)) (.bin .add (.ix (.var 0) (.k (.int 3))) (.k (.int 1))), .asg (.name 2) (.bin .mod (.bi .int [(.bin .pow (.bin .add (.bin .add (.ix (.var 0) (.k (.int 2))) (.bin .mul (.k (.int c1)) (.ix (.var 0) (.k (.int 3))))) (.k (.int c2))) (.k (.int 5)))]) (.k (.int 2147483647))), .ret (.bin .mod (.bi .int [(.bin .fdiv (.bin .mod (.bi .int [(.bin .pow (.bin .add (.bin .mul (.var 2) (.k (.int 48271))) (.bin .mul (.k (.int 104743)) (.ix (.var 0) (.k (.int 3))))) (.k (.int 3)))]) (.k (.int 2147483587))) (.k (.int 64)))]) (.var 1))]
set_option exponentiation.threshold 5000
theorem natAbs_lt {i : Int} {n : Nat} (h0 : 0 ≤ i) (h1 : i < n) : i.natAbs < n := by omega
/-- a draw: some number below many -/
theorem take_ok {P : Prog} {i : Nat} {c1 c2 : Int} (hf : P.fn i = some ⟨4, 2, bTake c1 c2, .all⟩) (h1 : 0 ≤ c1 ∧ c1 < 2 ^ 25) (h2 : 0 ≤ c2 ∧ c2 < 2 ^ 30) (k : Nat) {S : Store} {l b : Nat} {m : Int} (hb : Bx S l b) (hb2 : b < 2 ^ 36) (hm : 0 < m) (hm2 : m < 2 ^ 62) :
    ∃ d S', run P (k + 1) i [.loc l, .int m] S = .ok (.int d) S' ∧ 0 ≤ d ∧ d < m ∧ Bx S' l (b + 1) ∧ S'.length = S.length ∧ Keeps l S S' := by
  obtain ⟨a, bb, c, n, hS, ha, hc, hc2, hn, hn2⟩ := hb
  have hl := (List.getElem?_eq_some_iff.mp hS).1
  rw [run_all hf rfl rfl]
  have hdm : divOk m = true := divOk_of hm (by
    have : (2 : Nat) ^ 62 < 2 ^ 4096 := Nat.pow_lt_pow_right (by decide) (by decide)
    omega)
  by_cases q : bb = true ∧ 0 < a
  · obtain ⟨rfl, q⟩ := q
    refine ⟨a % m, S.set l (.lst [.int (a / m), .bl true, .int c, .int n]), ?_, Int.emod_nonneg _ (by omega), Int.emod_lt_of_pos _ hm, ⟨a / m, true, c, n, by rw [List.getElem?_set_self hl], Int.ediv_nonneg ha (by omega), hc, hc2, hn, by omega⟩, by simp, .set⟩
    simp [bTake, start, getV, ixD, seqOf, hS, atI, ixN, truth, Cop.ev, gtD, q, Bop.ev, modD, fdivD, hm, hdm, Bi.ev, setCell]
  · have hp1 : powOk (c + c1 * (n + 1) + c2) 5 = true := powOk_of (by decide) (by decide) (by
      have : c1 * (n + 1) < 2 ^ 25 * (2 ^ 36 + 1) := by
        calc c1 * (n + 1) ≤ c1 * (2 ^ 36 + 1) := Int.mul_le_mul_of_nonneg_left (by omega) h1.1
          _ < 2 ^ 25 * (2 ^ 36 + 1) := Int.mul_lt_mul_of_pos_right h1.2 (by decide)
      have : 0 ≤ c1 * (n + 1) := Int.mul_nonneg h1.1 (by omega)
      omega)
    have hm1 : mulOk c1 (n + 1) = true := mulOk_of (Nat.lt_trans (show c1.natAbs < 2 ^ 64 by omega) (Nat.pow_lt_pow_right (by decide) (by decide))) (Nat.lt_trans (show (n + 1).natAbs < 2 ^ 64 by omega) (Nat.pow_lt_pow_right (by decide) (by decide)))
    generalize hx : (c + c1 * (n + 1) + c2) ^ (5 : Int).toNat % 2147483647 = x at *
    have hx0 : 0 ≤ x := by rw [← hx]; exact Int.emod_nonneg _ (by decide)
    have hx1 : x < 2147483647 := by rw [← hx]; exact Int.emod_lt_of_pos _ (by decide)
    have hm2 : mulOk x 48271 = true := mulOk_of (Nat.lt_trans (show x.natAbs < 2 ^ 64 by omega) (Nat.pow_lt_pow_right (by decide) (by decide))) (Nat.lt_trans (show (48271 : Int).natAbs < 2 ^ 64 by decide) (Nat.pow_lt_pow_right (by decide) (by decide)))
    have hm3 : mulOk 104743 (n + 1) = true := mulOk_of (Nat.lt_trans (show (104743 : Int).natAbs < 2 ^ 64 by decide) (Nat.pow_lt_pow_right (by decide) (by decide))) (Nat.lt_trans (show (n + 1).natAbs < 2 ^ 64 by omega) (Nat.pow_lt_pow_right (by decide) (by decide)))
    have hp2 : powOk (x * 48271 + 104743 * (n + 1)) 3 = true := powOk_of (by decide) (by decide) (by omega)
    have hd64 : divOk 64 = true := by decide
    refine ⟨(x * 48271 + 104743 * (n + 1)) ^ (3 : Int).toNat % 2147483587 / 64 % m, S.set l (.lst [.int a, .bl bb, .int c, .int (n + 1)]), ?_, Int.emod_nonneg _ (by omega), Int.emod_lt_of_pos _ hm, ⟨a, bb, c, n + 1, by rw [List.getElem?_set_self hl], ha, hc, hc2, by omega, by omega⟩, by simp, .set⟩
    have hS2 : ∀ c : Cell, (List.set S l c)[l]? = some c := fun c => by rw [List.getElem?_set_self hl]
    have q' : (bb && decide (0 < a)) = false := by
      cases bb
      · rfl
      · simp at q ⊢; omega
    have hx' : (c + c1 * (n + 1) + c2) ^ 5 % 2147483647 = x := hx
    cases bb
    · simp [hx', bTake, start, getV, ixD, seqOf, hS, atI, ixN, truth, Cop.ev, Bop.ev, addD, mulD, powD, modD, fdivD, hm, hm1, hp1, hm2, hm3, hp2, hd64, Bi.ev, setCell, hS2]
    · have qa : ¬ 0 < a := by simpa using q
      simp [hx', bTake, start, getV, ixD, seqOf, hS, atI, ixN, truth, Cop.ev, gtD, qa, Bop.ev, addD, mulD, powD, modD, fdivD, hm, hm1, hp1, hm2, hm3, hp2, hd64, Bi.ev, setCell, hS2]
def bBox : List S := [.ret (.new .cell (.disp [(.bi .abs [(.var 0)]), (.cmp .ge (.bi .abs [(.var 0)]) (.bin .pow (.k (.int 10)) (.k (.int 18)))), (.bin .mod (.bi .int [(.bi .abs [(.var 0)])]) (.k (.int 2147483629))), (.k (.int 0))]))]
theorem box_ok {P : Prog} {i : Nat} (hf : P.fn i = some ⟨1, 1, bBox, .iso .cell⟩) (k : Nat) (g : Int) (S : Store) :
    ∃ S', run P (k + 1) i [.int g] S = .ok (.loc S.length) S' ∧ Bx S' S.length 0 ∧ S'.length = S.length + 1 ∧ ∀ l, Keeps l S S' := by
  have e : ∃ a bb c, run P (k + 1) i [.int g] S = .ok (.loc S.length) (S ++ [.lst [.int a, .bl bb, .int c, .int 0]]) ∧ 0 ≤ a ∧ 0 ≤ c ∧ c < 2147483629 := by
    have hp : powOk 10 18 = true := powOk_of (by decide) (by decide) (by decide)
    refine ⟨if g < 0 then -g else g, decide (1000000000000000000 ≤ if g < 0 then -g else g), (if g < 0 then -g else g) % 2147483629, ?_, by split <;> omega, Int.emod_nonneg _ (by decide), Int.emod_lt_of_pos _ (by decide)⟩
    rw [run_iso hf rfl rfl rfl]
    simp [bBox, start, getV, Bi.ev, Cop.ev, geD, Bop.ev, powD, hp, modD, line, place, isoEnd, mapO, frzD]
  obtain ⟨a, bb, c, e, h1, h2, h3⟩ := e
  refine ⟨_, e, ⟨a, bb, c, 0, by simp, h1, h2, h3, Int.le_refl _, Int.le_refl _⟩, by simp, fun l => .app⟩
def bWhole : List S := [.ret (.and [(.isi (.var 0) [.int]), (.not (.isi (.var 0) [.bool]))])]
def isInt : D → Bool
  | .int _ => true
  | _ => false
/-- what isinstance may be asked of -/
def known (d : D) (S : Store) : Prop := ∃ t, tyOf d S = some t
theorem whole_ok {P : Prog} {i : Nat} (hf : P.fn i = some ⟨1, 1, bWhole, .all⟩) (k : Nat) (d : D) {S : Store} (h : known d S) : run P (k + 1) i [d] S = .ok (.bl (isInt d)) S := by
  obtain ⟨t, h⟩ := h
  rw [run_all hf rfl rfl]
  cases d with
  | loc l =>
    have : t = .list ∨ t = .dict := by
      simp only [tyOf] at h
      split at h <;> first | (cases h; simp; done) | cases h
    rcases this with rfl | rfl <;> simp [bWhole, start, getV, h, Ty.sub, truth, isInt]
  | _ => simp [bWhole, start, getV, tyOf, Ty.sub, truth, isInt]
def bSame (i : Nat) : List S := [.iff (.or [(.cmp .is (.var 1) (.k .non)), (.isi (.var 1) [.bool])]) [.ret (.ite (.cmp .is (.var 1) (.k .non)) (.cmp .is (.var 0) (.k .non)) (.and [(.isi (.var 0) [.bool]), (.cmp .eq (.cmp .is (.var 0) (.k (.bl true))) (.cmp .is (.var 1) (.k (.bl true))))]))] [], .iff (.isi (.var 1) [.int]) [.ret (.and [(.isi (.var 0) [.int]), (.not (.isi (.var 0) [.bool])), (.cmp .eq (.var 0) (.var 1))])] [], .iff (.isi (.var 1) [.str]) [.ret (.and [(.isi (.var 0) [.str]), (.cmp .eq (.var 0) (.var 1))])] [], .iff (.isi (.var 1) [.dict]) [.iff (.or [(.not (.isi (.var 0) [.dict])), (.cmp .ne (.bi .len [(.var 0)]) (.bi .len [(.var 1)]))]) [.ret (.k (.bl false))] [], .ret (.cmp .eq (.new .frz (.lc [2] (.var 2) (.name 2) (.seq (.var 1)) [(.or [(.cmp .notin (.var 2) (.var 0)), (.not (.call i [(.ix (.var 0) (.var 2)), (.ix (.var 1) (.var 2))]))])] [])) (.new .frz (.disp [])))] [], .iff (.isi (.var 1) [.list, .tuple]) [.iff (.or [(.not (.isi (.var 0) [.list, .tuple])), (.cmp .ne (.isi (.var 0) [.list]) (.isi (.var 1) [.list])), (.cmp .ne (.bi .len [(.var 0)]) (.bi .len [(.var 1)]))]) [.ret (.k (.bl false))] [], .ret (.cmp .eq (.new .frz (.lc [3] (.var 3) (.name 3) (.range1 (.bi .len [(.var 1)])) [(.not (.call i [(.ix (.var 0) (.var 3)), (.ix (.var 1) (.var 3))]))] [])) (.new .frz (.disp [])))] [], .ret (.and [(.cmp .isnot (.var 0) (.k .non)), (.not (.isi (.var 0) [.int, .str, .list, .tuple, .dict]))])]
/-- alike, however the lists are held -/
def Sm (S : Store) : Nat → D → D → Prop
  | 0, _, _ => False
  | n + 1, a, b => (a = b ∧ match b with
      | .non => True
      | .bl _ => True
      | .int _ => True
      | .str _ => True
      | .dct [] [] => True
      | _ => False) ∨
    (∃ xs ys, ((a = .tup xs ∧ b = .tup ys) ∨ (lstOf a S = some xs ∧ lstOf b S = some ys)) ∧ xs.length = ys.length ∧ ys.length ≤ line ∧ ∀ (i : Nat) (x y : D), xs[i]? = some x → ys[i]? = some y → Sm S n x y)
theorem plain_k {d : D} (h : (match d with
    | .non => True
    | .bl _ => True
    | .int _ => True
    | .str _ => True
    | _ => False)) : plain 40 d = true := by
  cases d <;> first | rfl | exact h.elim
theorem rangeOk_nat {n : Nat} (h : n ≤ line) : rangeOk (n : Int) = true := by
  unfold rangeOk
  unfold line at h
  exact (Nat.blt_eq).mpr (by omega)
theorem atI_nat {α : Type} {xs : List α} {i : Nat} (h : i < xs.length) : atI xs (i : Int) = xs[i]? := by
  unfold atI ixN
  simp [h]
theorem at0 {α : Type} (x : α) (xs : List α) : atI (x :: xs) (0 : Int) = some x := by
  have := atI_nat (xs := x :: xs) (i := 0) (by simp)
  simpa using this
theorem at1 {α : Type} (x y : α) (xs : List α) : atI (x :: y :: xs) (1 : Int) = some y := by
  have := atI_nat (xs := x :: y :: xs) (i := 1) (by simp)
  simpa using this
theorem at2 {α : Type} (x y z : α) (xs : List α) : atI (x :: y :: z :: xs) (2 : Int) = some z := by
  have := atI_nat (xs := x :: y :: z :: xs) (i := 2) (by simp)
  simpa using this
theorem rangeL_mem {n : Nat} {x : D} (h : x ∈ rangeL 0 (n : Int)) : ∃ i : Nat, i < n ∧ x = .int i := by
  unfold rangeL at h
  simp at h
  obtain ⟨a, h1, h2⟩ := h
  exact ⟨a, h1, h2.symm⟩
theorem lstOf_seq {d : D} {S : Store} {xs : List D} (h : lstOf d S = some xs) : seqOf d S = some xs ∧ tyOf d S = some .list ∧ dctOf d S = none ∧ (∀ z, d ≠ .str z) ∧ d ≠ .non ∧ ∀ z, d ≠ .bl z := by
  cases d <;> simp only [lstOf] at h <;> first | cases h | skip
  · exact ⟨rfl, rfl, rfl, fun _ e => (nomatch e), fun e => (nomatch e), fun _ e => (nomatch e)⟩
  · rename_i l
    simp only [seqOf, tyOf, dctOf]
    cases e : S[l]? with
    | none => rw [e] at h; cases h
    | some c =>
      rw [e] at h
      cases c with
      | lst ys => cases h; exact ⟨rfl, rfl, rfl, fun _ e => (nomatch e), fun e => (nomatch e), fun _ e => (nomatch e)⟩
      | dct _ _ => cases h
theorem isD_not {d e : D} {S : Store} (h : ∃ xs, lstOf d S = some xs) : isD d .non = some false := by
  obtain ⟨xs, h⟩ := h
  have := (lstOf_seq h).2.2.2.2
  cases d <;> simp_all [isD]
section
variable {P : Prog} {j k : Nat} {S : Store}
theorem same_non : endOf (exSs (cxk P k) (bSame j) [.val .non, .val .non, .no, .no] S) = .ok (.bl true) S := by
  simp [bSame, getV, Cop.ev, isD, truth]
theorem same_int (z : Int) : endOf (exSs (cxk P k) (bSame j) [.val (.int z), .val (.int z), .no, .no] S) = .ok (.bl true) S := by
  simp [bSame, getV, Cop.ev, isD, truth, tyOf, Ty.sub, eqD, rd, eqv, plain, pd, PyData.eqv]
theorem same_bl (z : Bool) : endOf (exSs (cxk P k) (bSame j) [.val (.bl z), .val (.bl z), .no, .no] S) = .ok (.bl true) S := by
  cases z <;> simp [bSame, getV, Cop.ev, isD, truth, tyOf, Ty.sub, eqD, rd, eqv, plain, pd, PyData.eqv]
theorem same_str (z : Str) : endOf (exSs (cxk P k) (bSame j) [.val (.str z), .val (.str z), .no, .no] S) = .ok (.bl true) S := by
  simp [bSame, getV, Cop.ev, isD, truth, tyOf, Ty.sub, eqD, rd, eqv, plain, pd, PyData.eqv]
theorem same_dct : endOf (exSs (cxk P k) (bSame j) [.val (.dct [] []), .val (.dct [] []), .no, .no] S) = .ok (.bl true) S := by
  have m : evF (cxk P k) (.lc [2] (.var 2) (.name 2) (.seq (.var 1)) [(.or [(.cmp .notin (.var 2) (.var 0)), (.not (.call j [(.ix (.var 0) (.var 2)), (.ix (.var 1) (.var 2))]))])] []) [.val (.dct [] []), .val (.dct [] []), .no, .no] S = .ok (.l []) S :=
    lc_none (xs := []) (by simp [getV, frzOf]) (by simp)
  simp [bSame, getV, Cop.ev, isD, truth, tyOf, Ty.sub, Bi.ev, seqOf, dctOf, eqD, rd, eqv, plain, pd, PyData.eqv, PyData.eqvAll, frzOf, m]
theorem len_seq {a : D} {xs : List D} (a1 : seqOf a S = some xs) (a4 : ∀ z, a ≠ .str z) : Bi.len.ev [a] S = some (.int xs.length) := by
  cases a with
  | str z => exact absurd rfl (a4 z)
  | non => cases a1
  | bl z => cases a1
  | int z => cases a1
  | dct _ _ => cases a1
  | tup ys => cases a1; rfl
  | lst ys => cases a1; rfl
  | scr ys => cases a1; rfl
  | loc l =>
    show (match seqOf (.loc l) S with
      | some xs => some (D.int xs.length)
      | none => _) = _
    rw [a1]
theorem same_it {a b : D} {xs ys : List D} (h : ∀ (i : Nat) (x y : D), xs[i]? = some x → ys[i]? = some y → run P k j [x, y] S = .ok (.bl true) S) (hl : xs.length = ys.length) (hn : ys.length ≤ line) (e1 : seqOf a S = some xs) (e2 : seqOf b S = some ys) (e3 : Bi.len.ev [b] S = some (.int ys.length)) :
    evF (cxk P k) (.lc [3] (.var 3) (.name 3) (.range1 (.bi .len [(.var 1)])) [(.not (.call j [(.ix (.var 0) (.var 3)), (.ix (.var 1) (.var 3))]))] []) [.val a, .val b, .no, .no] S = .ok (.l []) S := by
  have hr : rangeOk (ys.length : Int) = true := rangeOk_nat hn
  refine lc_none (xs := rangeL 0 (ys.length : Int)) (by simp [getV, e3, asInt, hr]) (fun x hx => ?_)
  obtain ⟨i, hi, rfl⟩ := rangeL_mem hx
  have hx1 : xs[i]? = some xs[i] := List.getElem?_eq_getElem (by omega)
  have hy1 : ys[i]? = some ys[i] := List.getElem?_eq_getElem hi
  have q := h i xs[i] ys[i] hx1 hy1
  simp [turnE, wipe, getV, ixD, e1, e2, atI_nat (show i < xs.length by omega), atI_nat hi, hx1, hy1, q, truth]
theorem same_tup {xs ys : List D} (hl : xs.length = ys.length) (m : evF (cxk P k) (.lc [3] (.var 3) (.name 3) (.range1 (.bi .len [(.var 1)])) [(.not (.call j [(.ix (.var 0) (.var 3)), (.ix (.var 1) (.var 3))]))] []) [.val (.tup xs), .val (.tup ys), .no, .no] S = .ok (.l []) S) :
    endOf (exSs (cxk P k) (bSame j) [.val (.tup xs), .val (.tup ys), .no, .no] S) = .ok (.bl true) S := by
  simp [bSame, getV, Cop.ev, isD, truth, tyOf, Ty.sub, Bi.ev, seqOf, hl, eqD, rd, eqv, plain, pd, PyData.eqv, PyData.eqvAll, asInt, m]
theorem same_lst {a b : D} {xs ys : List D} (hl : xs.length = ys.length) (h1 : lstOf a S = some xs) (h2 : lstOf b S = some ys) (m : evF (cxk P k) (.lc [3] (.var 3) (.name 3) (.range1 (.bi .len [(.var 1)])) [(.not (.call j [(.ix (.var 0) (.var 3)), (.ix (.var 1) (.var 3))]))] []) [.val a, .val b, .no, .no] S = .ok (.l []) S) :
    endOf (exSs (cxk P k) (bSame j) [.val a, .val b, .no, .no] S) = .ok (.bl true) S := by
  obtain ⟨a1, a2, a3, a4, a5, a6⟩ := lstOf_seq h1
  obtain ⟨b1, b2, b3, b4, b5, b6⟩ := lstOf_seq h2
  have i2 : isD b .non = some false := isD_not (e := b) ⟨_, h2⟩
  simp [bSame, getV, Cop.ev, i2, truth, a2, b2, Ty.sub, len_seq a1 a4, len_seq b1 b4, hl, eqD, rd, eqv, plain, pd, PyData.eqv, PyData.eqvAll, asInt, m]
theorem same_ok (hf : P.fn j = some ⟨4, 2, bSame j, .all⟩) : ∀ (n k : Nat) (a b : D), Sm S n a b → run P (k + n) j [a, b] S = .ok (.bl true) S := by
  intro n
  induction n with
  | zero => intro _ _ _ h; exact h.elim
  | succ n ih =>
    intro k a b h
    refine (run_all hf rfl rfl).trans ?_
    rcases h with ⟨rfl, h⟩ | ⟨xs, ys, ht, hl, hn, hs⟩
    · cases a with
      | non => exact same_non
      | bl z => exact same_bl z
      | int z => exact same_int z
      | str z => exact same_str z
      | dct ks vs =>
        cases ks with
        | cons _ _ => exact h.elim
        | nil =>
          cases vs with
          | cons _ _ => exact h.elim
          | nil => exact same_dct
      | _ => exact h.elim
    · have q : ∀ (i : Nat) (x y : D), xs[i]? = some x → ys[i]? = some y → run P (k + n) j [x, y] S = .ok (.bl true) S := fun i x y e1 e2 => ih k x y (hs i x y e1 e2)
      rcases ht with ⟨rfl, rfl⟩ | ⟨h1, h2⟩
      · exact same_tup hl (same_it q hl hn rfl rfl rfl)
      · exact same_lst hl h1 h2 (same_it q hl hn (lstOf_seq h1).1 (lstOf_seq h2).1 (len_seq (lstOf_seq h2).1 (lstOf_seq h2).2.2.2.1))
end
end Mini
namespace Mini
open PySem (Str PyData)
/-- plain data of a moderate size -/
def fine : Nat → D → Bool
  | _, .non => true
  | _, .bl _ => true
  | _, .int _ => true
  | _, .str _ => true
  | _, .dct [] [] => true
  | n + 1, .tup xs => decide (xs.length ≤ 100000) && xs.all (fine n)
  | n + 1, .lst xs => decide (xs.length ≤ 100000) && xs.all (fine n)
  | _, _ => false
theorem fine_tup {n : Nat} {xs : List D} (h : fine n (.tup xs) = true) : ∃ m, n = m + 1 ∧ xs.length ≤ 100000 ∧ ∀ x ∈ xs, fine m x = true := by
  cases n with
  | zero => simp [fine] at h
  | succ m => simp only [fine, Bool.and_eq_true, decide_eq_true_eq, List.all_eq_true] at h; exact ⟨m, rfl, h.1, h.2⟩
theorem fine_lst {n : Nat} {xs : List D} (h : fine n (.lst xs) = true) : ∃ m, n = m + 1 ∧ xs.length ≤ 100000 ∧ ∀ x ∈ xs, fine m x = true := by
  cases n with
  | zero => simp [fine] at h
  | succ m => simp only [fine, Bool.and_eq_true, decide_eq_true_eq, List.all_eq_true] at h; exact ⟨m, rfl, h.1, h.2⟩
theorem sm_fine : ∀ (n : Nat) (d : D), fine n d = true → ∀ S, Sm S (n + 1) d d := by
  intro n
  induction n with
  | zero =>
    intro d h S
    cases d with
    | non => exact .inl ⟨rfl, trivial⟩
    | bl _ => exact .inl ⟨rfl, trivial⟩
    | int _ => exact .inl ⟨rfl, trivial⟩
    | str _ => exact .inl ⟨rfl, trivial⟩
    | dct ks vs => cases ks <;> cases vs <;> first | exact .inl ⟨rfl, trivial⟩ | simp [fine] at h
    | _ => simp [fine] at h
  | succ n ih =>
    intro d h S
    have seq : ∀ xs : List D, xs.length ≤ 100000 → (∀ x ∈ xs, fine n x = true) → ∀ (i : Nat) (x y : D), xs[i]? = some x → xs[i]? = some y → Sm S (n + 1) x y := fun xs _ hx i x y e1 e2 => by
      rw [e1] at e2; cases e2
      exact ih x (hx x (List.mem_of_getElem? e1)) S
    cases d with
    | non => exact .inl ⟨rfl, trivial⟩
    | bl _ => exact .inl ⟨rfl, trivial⟩
    | int _ => exact .inl ⟨rfl, trivial⟩
    | str _ => exact .inl ⟨rfl, trivial⟩
    | dct ks vs => cases ks <;> cases vs <;> first | exact .inl ⟨rfl, trivial⟩ | simp [fine] at h
    | tup xs =>
      obtain ⟨m, e, h1, h2⟩ := fine_tup h
      cases e
      exact .inr ⟨xs, xs, .inl ⟨rfl, rfl⟩, rfl, Nat.le_trans h1 (by decide), seq xs h1 h2⟩
    | lst xs =>
      obtain ⟨m, e, h1, h2⟩ := fine_lst h
      cases e
      exact .inr ⟨xs, xs, .inr ⟨rfl, rfl⟩, rfl, Nat.le_trans h1 (by decide), seq xs h1 h2⟩
    | _ => simp [fine] at h
theorem fine_plain : ∀ (n : Nat) (d : D), fine n d = true → (∀ ks vs, d ≠ .dct ks vs) → True := fun _ _ _ _ => trivial
theorem fine_mono : ∀ (n : Nat) (d : D), fine n d = true → fine (n + 1) d = true := by
  intro n
  induction n with
  | zero => intro d h; cases d <;> first | rfl | (rename_i ks vs; cases ks <;> cases vs <;> first | rfl | simp [fine] at h) | simp [fine] at h
  | succ n ih =>
    intro d h
    cases d with
    | tup xs =>
      simp only [fine, Bool.and_eq_true, decide_eq_true_eq, List.all_eq_true] at h ⊢
      exact ⟨h.1, fun x hx => ih x (h.2 x hx)⟩
    | lst xs =>
      simp only [fine, Bool.and_eq_true, decide_eq_true_eq, List.all_eq_true] at h ⊢
      exact ⟨h.1, fun x hx => ih x (h.2 x hx)⟩
    | dct ks vs => cases ks <;> cases vs <;> first | rfl | simp [fine] at h
    | non => rfl
    | bl _ => rfl
    | int _ => rfl
    | str _ => rfl
    | scr _ => simp [fine] at h
    | loc _ => simp [fine] at h
section
variable {P : Prog} {i j k : Nat} {S : Store}
def bBlamed (j : Nat) : List Mini.S := [.iff (.not (.call j [(.var 0), (.var 1)])) [.ret (.k (.bl false))] [], .iff (.isi (.var 1) [.list]) [.ex (.mth .append (.var 1) [(.k (.int 7))])] [], .ret (.call j [(.var 0), (.var 1)])]
theorem blamed_plain (hf : P.fn i = some ⟨2, 2, bBlamed j, .all⟩) (hs : P.fn j = some ⟨4, 2, bSame j, .all⟩) {n : Nat} {v : D} {t : Ty} (h : Sm S n v v) (ht : tyOf v S = some t) (hl : t ≠ .list) : run P (k + n + 1) i [v, v] S = .ok (.bl true) S := by
  have q := same_ok hs n k v v h
  refine (run_all hf rfl rfl).trans ?_
  have e : Ty.sub t .list = false := by cases t <;> first | rfl | exact absurd rfl hl
  simp [bBlamed, start, getV, q, truth, ht, e]
theorem blamed_loc (hf : P.fn i = some ⟨2, 2, bBlamed j, .all⟩) (hs : P.fn j = some ⟨4, 2, bSame j, .all⟩) {n : Nat} {l : Nat} {xs : List D} (h : S[l]? = some (.lst xs)) (hx : fine n (.lst xs) = true) (hn : xs.length < 100000) : ∃ S', run P (k + n + 2) i [.loc l, .loc l] S = .ok (.bl true) S' ∧ S' = S.set l (.lst (xs ++ [.int 7])) := by
  obtain ⟨m, rfl, h1, h2⟩ := fine_lst hx
  have hl := (List.getElem?_eq_some_iff.mp h).1
  have sm : ∀ (T : Store) (ys : List D), T[l]? = some (.lst ys) → ys.length ≤ 100000 → (∀ y ∈ ys, fine m y = true) → Sm T (m + 2) (.loc l) (.loc l) := fun T ys e1 e2 e3 => by
    have ll : lstOf (.loc l) T = some ys := by simp only [lstOf, e1]
    refine .inr ⟨ys, ys, .inr ⟨ll, ll⟩, rfl, Nat.le_trans e2 (by decide), fun a x y q1 q2 => ?_⟩
    rw [q1] at q2; cases q2
    exact sm_fine m x (e3 x (List.mem_of_getElem? q1)) T
  have q1 := same_ok hs (m + 2) k _ _ (sm S xs h h1 h2)
  have e2 : (S.set l (.lst (xs ++ [.int 7])))[l]? = some (.lst (xs ++ [.int 7])) := by rw [List.getElem?_set_self hl]
  have q2 := same_ok hs (m + 2) k _ _ (sm (S.set l (.lst (xs ++ [.int 7]))) _ e2 (by simp; omega) (fun y hy => by
    rcases List.mem_append.mp hy with hy | hy
    · exact h2 y hy
    · rw [List.mem_singleton.mp hy]; cases m <;> rfl))
  have hn2 : xs.length < line := Nat.lt_of_lt_of_le hn (by decide)
  refine ⟨_, (run_all hf rfl rfl).trans ?_, rfl⟩
  simp [bBlamed, start, getV, show k + (m + 1) + 1 = k + (m + 2) from rfl, q1, truth, tyOf, h, Ty.sub, lstOf, mthD, mtOn, hn2, q2]
def bCopy : List Mini.S := [.ret (.ite (.isi (.var 0) [.list]) (.new .cell (.listOf (.var 0))) (.var 0))]
theorem copy_lst (hf : P.fn i = some ⟨1, 1, bCopy, .all⟩) (xs : List D) : run P (k + 1) i [.lst xs] S = .ok (.loc S.length) (S ++ [.lst xs]) := by
  refine (run_all hf rfl rfl).trans ?_
  simp [bCopy, start, getV, tyOf, Ty.sub, truth, seqOf]
theorem copy_else (hf : P.fn i = some ⟨1, 1, bCopy, .all⟩) {v : D} {t : Ty} (ht : tyOf v S = some t) (hl : t ≠ .list) : run P (k + 1) i [v] S = .ok v S := by
  refine (run_all hf rfl rfl).trans ?_
  have e : Ty.sub t .list = false := by cases t <;> first | rfl | exact absurd rfl hl
  simp [bCopy, start, getV, ht, e, truth]
def bMixed (tk : Nat) : List Mini.S := [.par [2, 3] [.val (.new .cell (.listOf (.var 1))), .own (.disp [])], .whl (.cmp .ne (.var 2) (.new .frz (.disp []))) [.app 3 (.mth .popAt (.var 2) [(.call tk [(.var 0), (.bi .len [(.var 2)])])])], .retO 3 .frz]
end
end Mini
namespace Mini
open PySem (Str PyData)
section
variable {P : Prog} {i tk k : Nat} {S : Store} {c1 c2 : Int}
theorem Keeps.setNew {l ll : Nat} {S0 S : Store} {c : Cell} (h : Keeps l S0 S) (hl : S0.length ≤ ll) : Keeps l S0 (S.set ll c) :=
  ⟨by simp; exact h.len, fun a h1 h2 => by rw [List.getElem?_set_ne (by omega)]; exact h.get a h1 h2⟩
theorem all_plain {n : Nat} {xs : List D} (h : ∀ x ∈ xs, plain n x = true) : xs.all (plain n) = true := List.all_eq_true.mpr h
theorem eqv_cons_nil {x : D} {xs : List D} {S : Store} {l : Nat} (h : S[l]? = some (.lst (x :: xs))) (hp : ∀ y ∈ x :: xs, plain 39 y = true) : eqD (.loc l) (.lst []) S = some false := by
  have h1 : (x :: xs).all (plain 39) = true := all_plain hp
  unfold eqD
  simp only [rd, h]
  unfold eqv
  rw [if_pos (by simp only [plain, h1, List.all_nil, Bool.and_self])]
  simp [pd, PyData.eqv, PyData.eqvAll]
theorem eqv_nil_nil {S : Store} {l : Nat} (h : S[l]? = some (.lst [])) : eqD (.loc l) (.lst []) S = some true := by
  unfold eqD
  simp only [rd, h]
  unfold eqv
  rw [if_pos (by simp only [plain, List.all_nil, Bool.and_self])]
  simp [pd, PyData.eqv, PyData.eqvAll]
theorem mixed_loop (ht : P.fn tk = some ⟨4, 2, bTake c1 c2, .all⟩) (h1 : 0 ≤ c1 ∧ c1 < 2 ^ 25) (h2 : 0 ≤ c2 ∧ c2 < 2 ^ 30) {lb ll : Nat} {S0 : Store} {items : D} (hll : S0.length ≤ ll) (hlb : lb < S0.length) : ∀ (m fuel b : Nat) (xs found : List D) (S : Store), xs.length = m → m < fuel → S[ll]? = some (.lst xs) → (∀ x ∈ xs, plain 39 x = true) → found.length + m ≤ 100000 → Bx S lb b → b + m < 2 ^ 36 → Keeps lb S0 S →
    ∃ ys S', whlM (fun ρ' => bnd (ev (cxk P (k + 1)) (.cmp .ne (.var 2) (.new .frz (.disp []))) ρ') fun x => look (truth x)) (fun ρ' => exSs (cxk P (k + 1)) [.app 3 (.mth .popAt (.var 2) [(.call tk [(.var 0), (.bi .len [(.var 2)])])])] ρ') fuel [.val (.loc lb), .val items, .val (.loc ll), .own found] S
      = .ok (.nx [.val (.loc lb), .val items, .val (.loc ll), .own (found ++ ys)]) S' ∧ ys.length = m ∧ (∀ y ∈ ys, y ∈ xs) ∧ Bx S' lb (b + m) ∧ Keeps lb S0 S' := by
  intro m
  induction m with
  | zero =>
    intro fuel b xs found S hx hf hS hp hn hb hb2 hk
    obtain ⟨fuel, rfl⟩ : ∃ f, fuel = f + 1 := ⟨fuel - 1, by omega⟩
    have : xs = [] := List.eq_nil_of_length_eq_zero hx
    subst this
    refine ⟨[], S, ?_, rfl, by simp, hb, hk⟩
    rw [List.append_nil]
    exact whl_end (by simp [getV, Cop.ev, eqv_nil_nil hS, truth])
  | succ m ih =>
    intro fuel b xs found S hx hf hS hp hn hb hb2 hk
    obtain ⟨fuel, rfl⟩ : ∃ f, fuel = f + 1 := ⟨fuel - 1, by omega⟩
    obtain ⟨x, r, rfl⟩ : ∃ x r, xs = x :: r := by cases xs with
      | nil => cases hx
      | cons x r => exact ⟨x, r, rfl⟩
    have hl : (x :: r).length = m + 1 := hx
    obtain ⟨d, S1, e1, d0, d1, hb1, sl, hk1⟩ := take_ok (P := P) (i := tk) ht h1 h2 k (S := S) (l := lb) (b := b) (m := (m : Int) + 1) hb (by omega) (by omega) (by omega)
    have hne : ll ≠ lb := by omega
    have hlt : ll < S.length := (List.getElem?_eq_some_iff.mp hS).1
    have hS1 : S1[ll]? = some (.lst (x :: r)) := (hk1.get ll hlt hne).trans hS
    have hd : d.toNat < (x :: r).length := by rw [hl]; omega
    have hix : ixN (x :: r).length d = some d.toNat := by unfold ixN; rw [if_pos d0, if_pos (by rw [hl]; push_cast; exact d1)]
    have hg : (x :: r)[d.toNat]? = some (x :: r)[d.toNat] := List.getElem?_eq_getElem hd
    have hm : mthD .popAt (.loc ll) [.int d] S1 = .ok (x :: r)[d.toNat] (S1.set ll (.lst ((x :: r).eraseIdx d.toNat))) := by
      unfold mthD
      simp only [hS1]
      unfold mtOn
      simp only [if_pos (show -(2 : Int) ^ 62 ≤ d ∧ d < 2 ^ 62 by omega), hix, Option.bind_some, hg, Option.map_some]
    have hl1 : ll < S1.length := by omega
    have hS2 : (S1.set ll (.lst ((x :: r).eraseIdx d.toNat)))[ll]? = some (.lst ((x :: r).eraseIdx d.toNat)) := by rw [List.getElem?_set_self hl1]
    have hb2' : Bx (S1.set ll (.lst ((x :: r).eraseIdx d.toNat))) lb (b + 1) := by
      obtain ⟨a, bb, c, n, q, rest⟩ := hb1
      exact ⟨a, bb, c, n, by rw [List.getElem?_set_ne hne]; exact q, rest⟩
    obtain ⟨ys, S', e, l1, l2, l3, l4⟩ := ih fuel (b + 1) ((x :: r).eraseIdx d.toNat) (found ++ [(x :: r)[d.toNat]]) _ (by rw [List.length_eraseIdx_of_lt hd, hl]; rfl) (by omega) hS2 (fun y hy => hp y (List.mem_of_mem_eraseIdx hy)) (by simp; omega) hb2' (by omega) ((hk.trans hk1).setNew hll)
    refine ⟨(x :: r)[d.toNat] :: ys, S', ?_, by simp [l1], fun y hy => ?_, (by rw [show b + (m + 1) = b + 1 + m by omega]; exact l3), l4⟩
    · have hfl : found.length < line := Nat.lt_of_lt_of_le (show found.length < 100000 by omega) (by decide)
      have hlen : Bi.len.ev [.loc ll] S = some (.int ((m : Int) + 1)) := by
        rw [len_seq (a := .loc ll) (xs := x :: r) (by simp only [seqOf, hS]) (fun z e => (nomatch e)), hl]; rfl
      have hlo : lstOf (.loc ll) S = some (x :: r) := by simp only [lstOf, hS]
      rw [whl_step (S1 := S) (S2 := S1.set ll (.lst ((x :: r).eraseIdx d.toNat))) (ρ' := [.val (.loc lb), .val items, .val (.loc ll), .own (found ++ [(x :: r)[d.toNat]])]) (by simp [getV, Cop.ev, eqv_cons_nil hS hp, truth]) (by simp [getV, hlen, hlo, e1, hm, hfl]), e, List.append_assoc]
      rfl
    · rcases List.mem_cons.mp hy with rfl | hy
      · exact List.getElem_mem hd
      · exact List.mem_of_mem_eraseIdx (l2 y hy)
theorem mixed_ok (hf : P.fn i = some ⟨4, 2, bMixed tk, .all⟩) (ht : P.fn tk = some ⟨4, 2, bTake c1 c2, .all⟩) (h1 : 0 ≤ c1 ∧ c1 < 2 ^ 25) (h2 : 0 ≤ c2 ∧ c2 < 2 ^ 30) (hfu : 200000 < P.fuel) {lb b : Nat} {xs : List D} (hb : Bx S lb b) (hb2 : b + xs.length < 2 ^ 36) (hp : ∀ x ∈ xs, plain 39 x = true) (hn : xs.length ≤ 100000) :
    ∃ ys S', run P (k + 2) i [.loc lb, .lst xs] S = .ok (.lst ys) S' ∧ ys.length = xs.length ∧ (∀ y ∈ ys, y ∈ xs) ∧ Bx S' lb (b + xs.length) ∧ Keeps lb S S' := by
  have hlb := hb.lt
  have hb' : Bx (S ++ [.lst xs]) lb b := by
    obtain ⟨a, bb, c, n, q, rest⟩ := hb
    exact ⟨a, bb, c, n, by rw [List.getElem?_append_left hlb]; exact q, rest⟩
  obtain ⟨ys, S', e, l1, l2, l3, l4⟩ := mixed_loop (k := k) (items := .lst xs) ht h1 h2 (lb := lb) (ll := S.length) (S0 := S) (Nat.le_refl _) hlb xs.length P.fuel b xs [] (S ++ [.lst xs]) rfl (by omega) (by simp) hp (by simpa using hn) hb' hb2 .app
  refine ⟨ys, S', (run_all hf rfl rfl).trans ?_, l1, l2, l3, l4⟩
  have e' : exS (cxk P (k + 1)) (.whl (.cmp .ne (.var 2) (.new .frz (.disp []))) [.app 3 (.mth .popAt (.var 2) [(.call tk [(.var 0), (.bi .len [(.var 2)])])])]) [.val (.loc lb), .val (.lst xs), .val (.loc S.length), .own []] (S ++ [.lst xs]) = .ok (.nx [.val (.loc lb), .val (.lst xs), .val (.loc S.length), .own ys]) S' := by
    rw [exS_whl]
    simpa using e
  simp [bMixed, start, getV, seqOf, slotOf, line, e']
end
end Mini
namespace Mini
open PySem (Str PyData)
section
variable {P : Prog} {i k : Nat} {S : Store}
def bCell (c : Int) : List Mini.S := [.ret (.ite (.cmp .lt (.var 1) (.bi .len [(.var 0)])) (.ix (.var 0) (.var 1)) (.bin .add (.bin .mul (.k (.int c)) (.var 1)) (.bin .mod (.bi .int [(.bi .sum [(.new .frz (.slice (.var 0) none (some (.k (.int 1)))))])]) (.k (.int 1000003)))))]
theorem intsOf_map : ∀ is : List Int, intsOf (is.map .int) = some is
  | [] => rfl
  | i :: r => by rw [List.map_cons, intsOf, intsOf_map r]; rfl
set_option exponentiation.threshold 5000 in
theorem cell_ok {c : Int} (hf : P.fn i = some ⟨2, 2, bCell c, .all⟩) (hc : c.natAbs < 2 ^ 64) (ns : List Int) (j : Nat) (hj : j ≤ 63) : ∃ g : Int, run P (k + 1) i [.scr (ns.map .int), .int (j : Nat)] S = .ok (.int g) S := by
  by_cases e : j < ns.length
  · refine ⟨ns[j], (run_all hf rfl rfl).trans ?_⟩
    have h1 : atI (ns.map D.int) (j : Int) = some (.int ns[j]) := by rw [atI_nat (by simpa using e)]; simp [e]
    simp [bCell, start, getV, Bi.ev, seqOf, Cop.ev, ltD, e, truth, ixD, h1]
  · have hm : mulOk c (j : Int) = true := mulOk_of (Nat.lt_trans hc (Nat.pow_lt_pow_right (by decide) (by decide))) (Nat.lt_trans (show ((j : Nat) : Int).natAbs < 2 ^ 64 by omega) (Nat.pow_lt_pow_right (by decide) (by decide)))
    have hcut : cut (ns.map D.int) none (some 1) = (cut ns none (some 1)).map D.int := by
      unfold cut sIx
      simp
    refine ⟨c * j + (cut ns none (some 1)).sum % 1000003, (run_all hf rfl rfl).trans ?_⟩
    simp [bCell, start, getV, Bi.ev, seqOf, Cop.ev, ltD, e, truth, Bop.ev, mulD, hm, asInt, slcOf, hcut, intsOf_map, modD, addD]
end
theorem Bx.app {S T : Store} {l b : Nat} (h : Bx S l b) : Bx (S ++ T) l b := by
  have hl := h.lt
  obtain ⟨a, bb, c, n, q, rest⟩ := h
  exact ⟨a, bb, c, n, by rw [List.getElem?_append_left hl]; exact q, rest⟩
end Mini

namespace Mini.K28
open PySem (Str)
/- is_integer -/
def N_is_integer : List Str := ["value"]
def b_is_integer : List S := [.ret (.and [(.isi (.var 0) [.int]), (.not (.isi (.var 0) [.bool]))])]
/- is_count -/
def N_is_count : List Str := ["value"]
def b_is_count : List S := [.ret (.and [(.call 0 [(.var 0)]), (.cmp .ge (.var 0) (.k (.int 0)))])]
/- is_between -/
def N_is_between : List Str := ["value", "least", "greatest"]
def b_is_between : List S := [.ret (.and [(.call 0 [(.var 0)]), (.chain .le .le (.var 1) (.var 0) (.var 2))])]
/- is_partition -/
def N_is_partition : List Str := ["value", "greatest", "block"]
def b_is_partition : List S := [.iff (.not (.isi (.var 0) [.tuple])) [.ret (.k (.bl false))] [], .asg (.name 1) (.neg (.k (.int 1))), .for (.name 2) (.seq (.var 0)) [.iff (.not (.call 2 [(.var 2), (.k (.int 0)), (.bin .add (.var 1) (.k (.int 1)))])) [.ret (.k (.bl false))] [], .asg (.name 1) (.bi .max2 [(.var 1), (.var 2)])], .ret (.k (.bl true))]
/- check_partition -/
def N_check_partition : List Str := ["partition"]
def b_check_partition : List S := [.iff (.not (.call 3 [(.var 0)])) [.raise 1 [(.var 0)]] []]
/- check_points -/
def N_check_points : List Str := ["points"]
def b_check_points : List S := [.iff (.not (.call 1 [(.var 0)])) [.raise 2 [(.var 0)]] []]
/- block_count -/
def N_block_count : List Str := ["partition"]
def b_block_count : List S := [.ret (.bin .add (.bi .maxd [(.var 0), (.neg (.k (.int 1)))]) (.k (.int 1)))]
/- blocks_in -/
def N_blocks_in : List Str := ["partition", "found", "point", "block", "points"]
def b_blocks_in : List S := [.asg (.name 1) (.new .frz (.lc [3] (.new .cell (.disp [])) (.name 3) (.range1 (.call 6 [(.var 0)])) [] [])), .for (.tup [(.name 2), (.name 3)]) (.enum (.var 0)) [.ex (.mth .append (.ix (.var 1) (.var 3)) [(.var 2)])], .ret (.new .cell (.lc [4] (.bi .tuple [(.var 4)]) (.name 4) (.seq (.var 1)) [] []))]
/- partitions_in -/
def N_partitions_in : List Str := ["points", "found", "turn", "ahead", "block"]
def b_partitions_in : List S := [.own 1 (.disp [(.tup [])]), .for (.name 2) (.range1 (.var 0)) [.frz 1, .own 1 (.lc [3, 4] (.tup [(.star (.var 3)), (.var 4)]) (.name 3) (.seq (.var 1)) [] [.mk [4] (.name 4) (.range1 (.bin .add (.call 6 [(.var 3)]) (.k (.int 1)))) []])], .retO 1 .cell]
/- blocks -/
def N_blocks : List Str := ["partition"]
def b_blocks : List S := [.ex (.call 4 [(.var 0)]), .ret (.call 7 [(.var 0)])]
/- partitions -/
def N_partitions : List Str := ["points"]
def b_partitions : List S := [.ex (.call 5 [(.var 0)]), .ret (.call 8 [(.var 0)])]
/- _law_cell -/
def N__law_cell : List Str := ["script", "k"]
def b__law_cell : List S := [.ret (.ite (.cmp .lt (.var 1) (.bi .len [(.var 0)])) (.ix (.var 0) (.var 1)) (.bin .add (.bin .mul (.k (.int 6547)) (.var 1)) (.bin .mod (.bi .int [(.bi .sum [(.new .frz (.slice (.var 0) none (some (.k (.int 1)))))])]) (.k (.int 1000003)))))]
/- _law_box -/
def N__law_box : List Str := ["great"]
def b__law_box : List S := [.ret (.new .cell (.disp [(.bi .abs [(.var 0)]), (.cmp .ge (.bi .abs [(.var 0)]) (.bin .pow (.k (.int 10)) (.k (.int 18)))), (.bin .mod (.bi .int [(.bi .abs [(.var 0)])]) (.k (.int 2147483629))), (.k (.int 0))]))]
/- _law_take -/
def N__law_take : List Str := ["box", "many", "mixed", "digit"]
def b__law_take : List S := [.iff (.and [(.ix (.var 0) (.k (.int 1))), (.cmp .gt (.ix (.var 0) (.k (.int 0))) (.k (.int 0)))]) [.asg (.name 3) (.bin .mod (.bi .int [(.ix (.var 0) (.k (.int 0)))]) (.var 1)), .setC (.var 0) (.k (.int 0)) (.bin .fdiv (.ix (.var 0) (.k (.int 0))) (.var 1)), .ret (.var 3)] [], .setC (.var 0) (.k (.int 3)) (.bin .add (.ix (.var 0) (.k (.int 3))) (.k (.int 1))), .asg (.name 2) (.bin .mod (.bi .int [(.bin .pow (.bin .add (.bin .add (.ix (.var 0) (.k (.int 2))) (.bin .mul (.k (.int 15487589)) (.ix (.var 0) (.k (.int 3))))) (.k (.int 179426231))) (.k (.int 5)))]) (.k (.int 2147483647))), .ret (.bin .mod (.bi .int [(.bin .fdiv (.bin .mod (.bi .int [(.bin .pow (.bin .add (.bin .mul (.var 2) (.k (.int 48271))) (.bin .mul (.k (.int 104743)) (.ix (.var 0) (.k (.int 3))))) (.k (.int 3)))]) (.k (.int 2147483587))) (.k (.int 64)))]) (.var 1))]
/- _law_mixed -/
def N__law_mixed : List Str := ["box", "items", "left", "found"]
def b__law_mixed : List S := [.par [2, 3] [.val (.new .cell (.listOf (.var 1))), .own (.disp [])], .whl (.cmp .ne (.var 2) (.new .frz (.disp []))) [.app 3 (.mth .popAt (.var 2) [(.call 13 [(.var 0), (.bi .len [(.var 2)])])])], .retO 3 .frz]
/- _law_same -/
def N__law_same : List Str := ["told", "due", "key", "k"]
def b__law_same : List S := [.iff (.or [(.cmp .is (.var 1) (.k .non)), (.isi (.var 1) [.bool])]) [.ret (.ite (.cmp .is (.var 1) (.k .non)) (.cmp .is (.var 0) (.k .non)) (.and [(.isi (.var 0) [.bool]), (.cmp .eq (.cmp .is (.var 0) (.k (.bl true))) (.cmp .is (.var 1) (.k (.bl true))))]))] [], .iff (.isi (.var 1) [.int]) [.ret (.and [(.isi (.var 0) [.int]), (.not (.isi (.var 0) [.bool])), (.cmp .eq (.var 0) (.var 1))])] [], .iff (.isi (.var 1) [.str]) [.ret (.and [(.isi (.var 0) [.str]), (.cmp .eq (.var 0) (.var 1))])] [], .iff (.isi (.var 1) [.dict]) [.iff (.or [(.not (.isi (.var 0) [.dict])), (.cmp .ne (.bi .len [(.var 0)]) (.bi .len [(.var 1)]))]) [.ret (.k (.bl false))] [], .ret (.cmp .eq (.new .frz (.lc [2] (.var 2) (.name 2) (.seq (.var 1)) [(.or [(.cmp .notin (.var 2) (.var 0)), (.not (.call 15 [(.ix (.var 0) (.var 2)), (.ix (.var 1) (.var 2))]))])] [])) (.new .frz (.disp [])))] [], .iff (.isi (.var 1) [.list, .tuple]) [.iff (.or [(.not (.isi (.var 0) [.list, .tuple])), (.cmp .ne (.isi (.var 0) [.list]) (.isi (.var 1) [.list])), (.cmp .ne (.bi .len [(.var 0)]) (.bi .len [(.var 1)]))]) [.ret (.k (.bl false))] [], .ret (.cmp .eq (.new .frz (.lc [3] (.var 3) (.name 3) (.range1 (.bi .len [(.var 1)])) [(.not (.call 15 [(.ix (.var 0) (.var 3)), (.ix (.var 1) (.var 3))]))] [])) (.new .frz (.disp [])))] [], .ret (.and [(.cmp .isnot (.var 0) (.k .non)), (.not (.isi (.var 0) [.int, .str, .list, .tuple, .dict]))])]
/- _law_whole -/
def N__law_whole : List Str := ["value"]
def b__law_whole : List S := [.ret (.and [(.isi (.var 0) [.int]), (.not (.isi (.var 0) [.bool]))])]
/- _law_copy -/
def N__law_copy : List Str := ["value"]
def b__law_copy : List S := [.ret (.ite (.isi (.var 0) [.list]) (.new .cell (.listOf (.var 0))) (.var 0))]
/- _law_blamed -/
def N__law_blamed : List Str := ["given", "value"]
def b__law_blamed : List S := [.iff (.not (.call 15 [(.var 0), (.var 1)])) [.ret (.k (.bl false))] [], .iff (.isi (.var 1) [.list]) [.ex (.mth .append (.var 1) [(.k (.int 7))])] [], .ret (.call 15 [(.var 0), (.var 1)])]
/- _law_met -/
def N__law_met : List Str := ["door", "value", "named", "e"]
def b__law_met : List S := [.try [.iff (.cmp .eq (.var 0) (.k (.str "blocks"))) [.ret (.new .frz (.disp [(.k (.str "told")), (.ite (.var 2) (.call 9 [(.var 1)]) (.callk 9 [] [(.var 1)] ["partition"] [0]))]))] [], .ret (.new .frz (.disp [(.k (.str "told")), (.ite (.var 2) (.call 10 [(.var 1)]) (.callk 10 [] [(.var 1)] ["points"] [0]))]))] [⟨1, .fld .frz "partition" "given" 3⟩, ⟨2, .fld .frz "points" "given" 3⟩, ⟨0, .kl .frz [(.str "another"), .non]⟩]]
/- _law_is_partition -/
def N__law_is_partition : List Str := ["value", "k", "block"]
def b__law_is_partition : List S := [.iff (.or [(.not (.isi (.var 0) [.tuple])), (.cmp .ne (.new .frz (.lc [2] (.var 2) (.name 2) (.seq (.var 0)) [(.or [(.not (.call 16 [(.var 2)])), (.cmp .lt (.var 2) (.k (.int 0)))])] [])) (.new .frz (.disp [])))]) [.ret (.k (.bl false))] [], .ret (.cmp .eq (.new .frz (.lc [1] (.var 1) (.name 1) (.range1 (.bi .len [(.var 0)])) [(.and [(.cmp .gt (.ix (.var 0) (.var 1)) (.k (.int 0))), (.cmp .notin (.bin .sub (.ix (.var 0) (.var 1)) (.k (.int 1))) (.slc (.var 0) none (some (.var 1))))])] [])) (.new .frz (.disp [])))]
/- _law_drawn -/
def N__law_drawn : List Str := ["box", "points", "turn", "found", "most", "block"]
def b__law_drawn : List S := [.par [3, 4] [.own (.disp []), .val (.k (.int 0))], .for (.name 2) (.range1 (.var 1)) [.asg (.name 5) (.call 13 [(.var 0), (.bin .add (.var 4) (.k (.int 1)))]), .asg (.name 4) (.bi .max2 [(.var 4), (.bin .add (.var 5) (.k (.int 1)))]), .app 3 (.var 5)], .frz 3, .ret (.bi .tuple [(.var 3)])]
/- _law_near -/
def N__law_near : List Str := ["box", "value", "menu", "at", "block"]
def b__law_near : List S := [.own 2 (.disp [(.new .frz (.listOf (.var 1))), (.bin .add (.tup [(.k (.int 0))]) (.var 1)), (.bin .add (.var 1) (.tup [(.bin .add (.bi .max [(.bin .add (.tup [(.neg (.k (.int 1)))]) (.var 1))]) (.k (.int 2)))])), (.bin .add (.var 1) (.tup [(.neg (.k (.int 1)))])), (.k .non), (.k (.int 5)), (.k (.str "01")), .dct0, (.k (.bl true)), (.tup [(.k .non)]), (.tup [(.k (.str "0"))]), (.tup [(.k (.bl false))]), (.tup [(.k (.int 1))]), (.tup [(.k (.int 0)), (.k (.int 2))]), (.tup [(.tup [(.k (.int 0))])]), (.new .frz (.disp [])), (.tup [(.k (.int 0)), (.k (.bl true))])]), .iff (.cmp .ne (.var 1) (.tup [])) [.asg (.name 3) (.call 13 [(.var 0), (.bi .len [(.var 1)])]), .for (.name 4) (.seq (.new .frz (.disp [(.bin .add (.ix (.var 1) (.var 3)) (.k (.int 1))), (.bin .sub (.ix (.var 1) (.var 3)) (.k (.int 1))), (.bi .str [(.ix (.var 1) (.var 3))]), (.k .non), (.k (.int 0)), (.tup [(.ix (.var 1) (.var 3))])]))) [.app 2 (.bin .add (.bin .add (.slc (.var 1) none (some (.var 3))) (.tup [(.var 4)])) (.slc (.var 1) (some (.bin .add (.var 3) (.k (.int 1)))) none))], .app 2 (.bin .add (.slc (.var 1) none (some (.var 3))) (.slc (.var 1) (some (.bin .add (.var 3) (.k (.int 1)))) none)), .app 2 (.bi .tuple [(.new .frz (.lc [4] (.bin .add (.var 4) (.k (.int 1))) (.name 4) (.seq (.var 1)) [] []))]), .app 2 (.bi .tuple [(.call 14 [(.var 0), (.new .frz (.listOf (.var 1)))])])] [], .frz 2, .ret (.ix (.var 2) (.call 13 [(.var 0), (.bi .len [(.var 2)])]))]
/- _law_gathered -/
def N__law_gathered : List Str := ["partition", "block", "k"]
def b__law_gathered : List S := [.ret (.new .frz (.lc [1] (.bi .tuple [(.new .frz (.lc [2] (.var 2) (.name 2) (.range1 (.bi .len [(.var 0)])) [(.cmp .eq (.ix (.var 0) (.var 2)) (.var 1))] []))]) (.name 1) (.range1 (.bin .add (.bi .max [(.bin .add (.tup [(.neg (.k (.int 1)))]) (.var 0))]) (.k (.int 1)))) [] []))]
/- _law_all -/
def N__law_all : List Str := ["points", "found", "turn", "longer", "one", "block"]
def b__law_all : List S := [.asg (.name 1) (.new .frz (.disp [(.tup [])])), .for (.name 2) (.range1 (.var 0)) [.own 3 (.disp []), .for (.name 4) (.seq (.var 1)) [.ext 3 (.new .frz (.lc [5] (.bin .add (.var 4) (.tup [(.var 5)])) (.name 5) (.range1 (.bin .add (.bi .max [(.bin .add (.tup [(.neg (.k (.int 1)))]) (.var 4))]) (.k (.int 2)))) [] []))], .frz 3, .asg (.name 1) (.var 3)], .ret (.var 1)]
/- _law_number -/
def N__law_number : List Str := ["points", "rows", "turn", "row", "number"]
def b__law_number : List S := [.asg (.name 1) (.new .cell (.disp [(.new .cell (.disp [(.k (.int 1))]))])), .for (.name 2) (.range1 (.var 0)) [.asg (.name 3) (.new .cell (.disp [(.ix (.ix (.var 1) (.neg (.k (.int 1)))) (.neg (.k (.int 1))))])), .forL (.name 4) (.ix (.var 1) (.neg (.k (.int 1)))) [.ex (.mth .append (.var 3) [(.bin .add (.ix (.var 3) (.neg (.k (.int 1)))) (.var 4))])], .ex (.mth .append (.var 1) [(.var 3)])], .ret (.ix (.ix (.var 1) (.var 0)) (.k (.int 0)))]
/- _law_value_right -/
def N__law_value_right : List Str := ["value", "named", "due", "handed", "told"]
def b__law_value_right : List S := [.asg (.name 2) (.call 20 [(.var 0)]), .iff (.not (.call 15 [(.ite (.var 1) (.call 3 [(.var 0)]) (.callk 3 [] [(.var 0)] ["value"] [0])), (.var 2)])) [.ret (.k (.bl false))] [], .asg (.name 3) (.call 17 [(.var 0)]), .asg (.name 4) (.call 19 [(.k (.str "blocks")), (.var 3), (.var 1)]), .iff (.not (.var 2)) [.ret (.and [(.cmp .eq (.ix (.var 4) (.k (.int 0))) (.k (.str "partition"))), (.call 18 [(.ix (.var 4) (.k (.int 1))), (.var 3)])])] [], .iff (.not (.call 15 [(.var 4), (.new .frz (.disp [(.k (.str "told")), (.call 23 [(.var 0)])]))])) [.ret (.k (.bl false))] [], .ex (.mth .append (.ix (.var 4) (.k (.int 1))) [(.k (.str "more"))]), .ret (.call 15 [(.call 19 [(.k (.str "blocks")), (.var 0), (.not (.var 1))]), (.new .frz (.disp [(.k (.str "told")), (.call 23 [(.var 0)])]))])]
/- law -/
def N_law : List Str := ["script", "k", "box", "named", "turn", "points", "wrong", "met", "value", "due", "told", "one"]
def b_law : List S := [.for (.name 1) (.range1 (.bi .max2 [(.k (.int 3)), (.bi .min2 [(.k (.int 6)), (.bi .len [(.var 0)])])])) [.asg (.name 2) (.call 12 [(.call 11 [(.var 0), (.var 1)])]), .asg (.name 3) (.cmp .eq (.call 13 [(.var 2), (.k (.int 2))]) (.k (.int 0))), .for (.name 4) (.range1 (.k (.int 6))) [.asg (.name 8) (.call 21 [(.var 2), (.ite (.cmp .lt (.var 4) (.k (.int 2))) (.call 13 [(.var 2), (.k (.int 12))]) (.call 13 [(.var 2), (.k (.int 7))]))]), .iff (.or [(.not (.call 26 [(.var 8), (.var 3)])), (.not (.call 26 [(.call 22 [(.var 2), (.var 8)]), (.not (.var 3))]))]) [.ret (.k (.bl false))] [], .asg (.name 3) (.not (.var 3))], .asg (.name 5) (.call 13 [(.var 2), (.k (.int 7))]), .par [9, 10] [.val (.call 24 [(.var 5)]), .val (.call 19 [(.k (.str "all")), (.var 5), (.var 3)])], .iff (.or [(.not (.call 15 [(.var 10), (.new .frz (.disp [(.k (.str "told")), (.var 9)]))])), (.cmp .ne (.bi .len [(.var 9)]) (.call 25 [(.var 5)])), (.cmp .ne (.new .frz (.lc [11] (.var 11) (.name 11) (.seq (.var 9)) [(.not (.call 20 [(.var 11)]))] [])) (.new .frz (.disp [])))]) [.ret (.k (.bl false))] [], .ex (.mth .append (.ix (.var 10) (.k (.int 1))) [(.k (.str "more"))]), .setC (.ix (.var 10) (.k (.int 1))) (.k (.int 0)) (.k .non), .iff (.not (.call 15 [(.call 19 [(.k (.str "all")), (.var 5), (.not (.var 3))]), (.new .frz (.disp [(.k (.str "told")), (.var 9)]))])) [.ret (.k (.bl false))] [], .asg (.name 6) (.call 17 [(.ix (.new .frz (.disp [(.neg (.k (.int 1))), (.k .non), (.k (.bl true)), (.k (.str "2")), (.tup [(.k (.int 2))]), (.new .frz (.disp [(.k (.int 2))])), .dct0, (.neg (.bin .pow (.k (.int 10)) (.k (.int 9)))), (.tup [(.k (.int 0))])])) (.call 13 [(.var 2), (.k (.int 9))]))]), .asg (.name 7) (.call 19 [(.k (.str "all")), (.var 6), (.var 3)]), .iff (.or [(.cmp .ne (.ix (.var 7) (.k (.int 0))) (.k (.str "points"))), (.not (.call 18 [(.ix (.var 7) (.k (.int 1))), (.var 6)]))]) [.ret (.k (.bl false))] []], .ret (.k (.bl true))]
def cls : ClsT := [("TurnError", none), ("InvalidPartition", some "given"), ("InvalidPoints", some "given")]
def exmL : List (Str × Str × Bool) := [("TurnError", "TurnError", true), ("TurnError", "InvalidPartition", false), ("TurnError", "InvalidPoints", false), ("InvalidPartition", "TurnError", true), ("InvalidPartition", "InvalidPartition", true), ("InvalidPartition", "InvalidPoints", false), ("InvalidPoints", "TurnError", true), ("InvalidPoints", "InvalidPartition", false), ("InvalidPoints", "InvalidPoints", true)]
def fnL : List Fn := [⟨N_is_integer.length, 1, b_is_integer, .all⟩, ⟨N_is_count.length, 1, b_is_count, .all⟩, ⟨N_is_between.length, 3, b_is_between, .all⟩, ⟨N_is_partition.length, 1, b_is_partition, .all⟩, ⟨N_check_partition.length, 1, b_check_partition, .all⟩, ⟨N_check_points.length, 1, b_check_points, .all⟩, ⟨N_block_count.length, 1, b_block_count, .all⟩, ⟨N_blocks_in.length, 1, b_blocks_in, .iso .cell⟩, ⟨N_partitions_in.length, 1, b_partitions_in, .all⟩, ⟨N_blocks.length, 1, b_blocks, .all⟩, ⟨N_partitions.length, 1, b_partitions, .all⟩, ⟨N__law_cell.length, 2, b__law_cell, .all⟩, ⟨N__law_box.length, 1, b__law_box, .iso .cell⟩, ⟨N__law_take.length, 2, b__law_take, .all⟩, ⟨N__law_mixed.length, 2, b__law_mixed, .all⟩, ⟨N__law_same.length, 2, b__law_same, .all⟩, ⟨N__law_whole.length, 1, b__law_whole, .all⟩, ⟨N__law_copy.length, 1, b__law_copy, .all⟩, ⟨N__law_blamed.length, 2, b__law_blamed, .all⟩, ⟨N__law_met.length, 3, b__law_met, .all⟩, ⟨N__law_is_partition.length, 1, b__law_is_partition, .all⟩, ⟨N__law_drawn.length, 2, b__law_drawn, .all⟩, ⟨N__law_near.length, 2, b__law_near, .all⟩, ⟨N__law_gathered.length, 1, b__law_gathered, .all⟩, ⟨N__law_all.length, 1, b__law_all, .all⟩, ⟨N__law_number.length, 1, b__law_number, .iso .frz⟩, ⟨N__law_value_right.length, 2, b__law_value_right, .all⟩, ⟨N_law.length, 1, b_law, .all⟩]
def Pgm : Prog := pgOf fnL cls exmL

end Mini.K28

namespace Mini.K28
open PySem (Str)
theorem r_is_integer (k : Nat) (a0 : D) (S : Store) : run Pgm (k + 1) 0 [a0] S = endOf (exSs (cxk Pgm k) b_is_integer [.val a0] S) := run_all (fn := ⟨1, 1, b_is_integer, .all⟩) rfl rfl rfl
theorem r_is_count (k : Nat) (a0 : D) (S : Store) : run Pgm (k + 1) 1 [a0] S = endOf (exSs (cxk Pgm k) b_is_count [.val a0] S) := run_all (fn := ⟨1, 1, b_is_count, .all⟩) rfl rfl rfl
theorem r_is_between (k : Nat) (a0 a1 a2 : D) (S : Store) : run Pgm (k + 1) 2 [a0, a1, a2] S = endOf (exSs (cxk Pgm k) b_is_between [.val a0, .val a1, .val a2] S) := run_all (fn := ⟨3, 3, b_is_between, .all⟩) rfl rfl rfl
theorem r_is_partition (k : Nat) (a0 : D) (S : Store) : run Pgm (k + 1) 3 [a0] S = endOf (exSs (cxk Pgm k) b_is_partition [.val a0, .no, .no] S) := run_all (fn := ⟨3, 1, b_is_partition, .all⟩) rfl rfl rfl
theorem r_check_partition (k : Nat) (a0 : D) (S : Store) : run Pgm (k + 1) 4 [a0] S = endOf (exSs (cxk Pgm k) b_check_partition [.val a0] S) := run_all (fn := ⟨1, 1, b_check_partition, .all⟩) rfl rfl rfl
theorem r_check_points (k : Nat) (a0 : D) (S : Store) : run Pgm (k + 1) 5 [a0] S = endOf (exSs (cxk Pgm k) b_check_points [.val a0] S) := run_all (fn := ⟨1, 1, b_check_points, .all⟩) rfl rfl rfl
theorem r_block_count (k : Nat) (a0 : D) (S : Store) : run Pgm (k + 1) 6 [a0] S = endOf (exSs (cxk Pgm k) b_block_count [.val a0] S) := run_all (fn := ⟨1, 1, b_block_count, .all⟩) rfl rfl rfl
theorem r_blocks_in (k : Nat) (a0 : D) (S : Store) (hb : belows 0 [a0] = true) : run Pgm (k + 1) 7 [a0] S = (match endOf (exSs (cxk Pgm k) b_blocks_in [.val a0, .no, .no, .no, .no] []) with
    | .ok d S' => isoEnd .cell d S' S
    | .err c fs _ => if belows 0 fs then .err c fs S else .bad
    | .bad => .bad) := run_iso (fn := ⟨5, 1, b_blocks_in, .iso .cell⟩) rfl rfl rfl hb
theorem r_partitions_in (k : Nat) (a0 : D) (S : Store) : run Pgm (k + 1) 8 [a0] S = endOf (exSs (cxk Pgm k) b_partitions_in [.val a0, .no, .no, .no, .no] S) := run_all (fn := ⟨5, 1, b_partitions_in, .all⟩) rfl rfl rfl
theorem r_blocks (k : Nat) (a0 : D) (S : Store) : run Pgm (k + 1) 9 [a0] S = endOf (exSs (cxk Pgm k) b_blocks [.val a0] S) := run_all (fn := ⟨1, 1, b_blocks, .all⟩) rfl rfl rfl
theorem r_partitions (k : Nat) (a0 : D) (S : Store) : run Pgm (k + 1) 10 [a0] S = endOf (exSs (cxk Pgm k) b_partitions [.val a0] S) := run_all (fn := ⟨1, 1, b_partitions, .all⟩) rfl rfl rfl
theorem r__law_cell (k : Nat) (a0 a1 : D) (S : Store) : run Pgm (k + 1) 11 [a0, a1] S = endOf (exSs (cxk Pgm k) b__law_cell [.val a0, .val a1] S) := run_all (fn := ⟨2, 2, b__law_cell, .all⟩) rfl rfl rfl
theorem r__law_box (k : Nat) (a0 : D) (S : Store) (hb : belows 0 [a0] = true) : run Pgm (k + 1) 12 [a0] S = (match endOf (exSs (cxk Pgm k) b__law_box [.val a0] []) with
    | .ok d S' => isoEnd .cell d S' S
    | .err c fs _ => if belows 0 fs then .err c fs S else .bad
    | .bad => .bad) := run_iso (fn := ⟨1, 1, b__law_box, .iso .cell⟩) rfl rfl rfl hb
theorem r__law_take (k : Nat) (a0 a1 : D) (S : Store) : run Pgm (k + 1) 13 [a0, a1] S = endOf (exSs (cxk Pgm k) b__law_take [.val a0, .val a1, .no, .no] S) := run_all (fn := ⟨4, 2, b__law_take, .all⟩) rfl rfl rfl
theorem r__law_mixed (k : Nat) (a0 a1 : D) (S : Store) : run Pgm (k + 1) 14 [a0, a1] S = endOf (exSs (cxk Pgm k) b__law_mixed [.val a0, .val a1, .no, .no] S) := run_all (fn := ⟨4, 2, b__law_mixed, .all⟩) rfl rfl rfl
theorem r__law_same (k : Nat) (a0 a1 : D) (S : Store) : run Pgm (k + 1) 15 [a0, a1] S = endOf (exSs (cxk Pgm k) b__law_same [.val a0, .val a1, .no, .no] S) := run_all (fn := ⟨4, 2, b__law_same, .all⟩) rfl rfl rfl
theorem r__law_whole (k : Nat) (a0 : D) (S : Store) : run Pgm (k + 1) 16 [a0] S = endOf (exSs (cxk Pgm k) b__law_whole [.val a0] S) := run_all (fn := ⟨1, 1, b__law_whole, .all⟩) rfl rfl rfl
theorem r__law_copy (k : Nat) (a0 : D) (S : Store) : run Pgm (k + 1) 17 [a0] S = endOf (exSs (cxk Pgm k) b__law_copy [.val a0] S) := run_all (fn := ⟨1, 1, b__law_copy, .all⟩) rfl rfl rfl
theorem r__law_blamed (k : Nat) (a0 a1 : D) (S : Store) : run Pgm (k + 1) 18 [a0, a1] S = endOf (exSs (cxk Pgm k) b__law_blamed [.val a0, .val a1] S) := run_all (fn := ⟨2, 2, b__law_blamed, .all⟩) rfl rfl rfl
theorem r__law_met (k : Nat) (a0 a1 a2 : D) (S : Store) : run Pgm (k + 1) 19 [a0, a1, a2] S = endOf (exSs (cxk Pgm k) b__law_met [.val a0, .val a1, .val a2, .no] S) := run_all (fn := ⟨4, 3, b__law_met, .all⟩) rfl rfl rfl
theorem r__law_is_partition (k : Nat) (a0 : D) (S : Store) : run Pgm (k + 1) 20 [a0] S = endOf (exSs (cxk Pgm k) b__law_is_partition [.val a0, .no, .no] S) := run_all (fn := ⟨3, 1, b__law_is_partition, .all⟩) rfl rfl rfl
theorem r__law_drawn (k : Nat) (a0 a1 : D) (S : Store) : run Pgm (k + 1) 21 [a0, a1] S = endOf (exSs (cxk Pgm k) b__law_drawn [.val a0, .val a1, .no, .no, .no, .no] S) := run_all (fn := ⟨6, 2, b__law_drawn, .all⟩) rfl rfl rfl
theorem r__law_near (k : Nat) (a0 a1 : D) (S : Store) : run Pgm (k + 1) 22 [a0, a1] S = endOf (exSs (cxk Pgm k) b__law_near [.val a0, .val a1, .no, .no, .no] S) := run_all (fn := ⟨5, 2, b__law_near, .all⟩) rfl rfl rfl
theorem r__law_gathered (k : Nat) (a0 : D) (S : Store) : run Pgm (k + 1) 23 [a0] S = endOf (exSs (cxk Pgm k) b__law_gathered [.val a0, .no, .no] S) := run_all (fn := ⟨3, 1, b__law_gathered, .all⟩) rfl rfl rfl
theorem r__law_all (k : Nat) (a0 : D) (S : Store) : run Pgm (k + 1) 24 [a0] S = endOf (exSs (cxk Pgm k) b__law_all [.val a0, .no, .no, .no, .no, .no] S) := run_all (fn := ⟨6, 1, b__law_all, .all⟩) rfl rfl rfl
theorem r__law_number (k : Nat) (a0 : D) (S : Store) (hb : belows 0 [a0] = true) : run Pgm (k + 1) 25 [a0] S = (match endOf (exSs (cxk Pgm k) b__law_number [.val a0, .no, .no, .no, .no] []) with
    | .ok d S' => isoEnd .frz d S' S
    | .err c fs _ => if belows 0 fs then .err c fs S else .bad
    | .bad => .bad) := run_iso (fn := ⟨5, 1, b__law_number, .iso .frz⟩) rfl rfl rfl hb
theorem r__law_value_right (k : Nat) (a0 a1 : D) (S : Store) : run Pgm (k + 1) 26 [a0, a1] S = endOf (exSs (cxk Pgm k) b__law_value_right [.val a0, .val a1, .no, .no, .no] S) := run_all (fn := ⟨5, 2, b__law_value_right, .all⟩) rfl rfl rfl
theorem r_law (k : Nat) (a0 : D) (S : Store) : run Pgm (k + 1) 27 [a0] S = endOf (exSs (cxk Pgm k) b_law [.val a0, .no, .no, .no, .no, .no, .no, .no, .no, .no, .no, .no] S) := run_all (fn := ⟨12, 1, b_law, .all⟩) rfl rfl rfl

end Mini.K28

/-! k28, the pure part, 1: partitions judged. -/
namespace Mini.K28
open PySem (Str PyData)
/-! ### plain lists of ints -/
def isP : List Int → Int → Bool
  | [], _ => true
  | b :: r, g => decide (0 ≤ b) && decide (b ≤ g + 1) && isP r (max g b)
/-- each one above 0 has the one below it ahead of it -/
def ahead (is : List Int) : Prop := ∀ k b, is[k]? = some b → 0 < b → b - 1 ∈ is.take k
/-- the numbers of p are all from 0 to g -/
def Full (p : List Int) (g : Int) : Prop := -1 ≤ g ∧ ∀ j : Int, (0 ≤ j ∧ j ≤ g) ↔ j ∈ p
theorem isP_iff : ∀ (r p : List Int) (g : Int), Full p g → (isP r g = true ↔ (∀ b ∈ r, 0 ≤ b) ∧ ∀ k b, r[k]? = some b → 0 < b → b - 1 ∈ p ++ r.take k)
  | [], p, g, _ => by simp [isP]
  | b :: r, p, g, h => by
    obtain ⟨h1, h2⟩ := h
    rw [isP]
    by_cases h0 : 0 ≤ b
    · by_cases hb : b ≤ g + 1
      · have hF : Full (p ++ [b]) (max g b) := by
          refine ⟨by omega, fun j => ?_⟩
          rw [List.mem_append, List.mem_singleton, ← h2 j]
          constructor
          · intro q; by_cases e : j = b
            · exact .inr e
            · left; omega
          · rintro (q | q) <;> omega
        rw [decide_eq_true h0, decide_eq_true hb, Bool.true_and, Bool.true_and, isP_iff r (p ++ [b]) (max g b) hF]
        constructor
        · rintro ⟨q1, q2⟩
          refine ⟨fun x hx => by rcases List.mem_cons.mp hx with rfl | hx; exact h0; exact q1 x hx, fun k x hk hx => ?_⟩
          cases k with
          | zero =>
            rw [List.getElem?_cons_zero] at hk; cases hk
            rw [List.take_zero, List.append_nil, ← h2]; omega
          | succ k =>
            rw [List.getElem?_cons_succ] at hk
            have := q2 k x hk hx
            rwa [List.append_assoc] at this
        · rintro ⟨q1, q2⟩
          refine ⟨fun x hx => q1 x (List.mem_cons_of_mem _ hx), fun k x hk hx => ?_⟩
          have := q2 (k + 1) x (by rw [List.getElem?_cons_succ]; exact hk) hx
          rw [List.append_assoc]
          exact this
      · rw [decide_eq_false hb, Bool.and_false, Bool.false_and]
        refine ⟨fun e => (nomatch e), fun ⟨q1, q2⟩ => ?_⟩
        have := q2 0 b rfl (by omega)
        rw [List.take_zero, List.append_nil, ← h2] at this
        omega
    · rw [decide_eq_false h0, Bool.false_and, Bool.false_and]
      exact ⟨fun e => (nomatch e), fun ⟨q1, _⟩ => absurd (q1 b (by simp)) h0⟩
theorem full_nil : Full [] (-1) := ⟨by omega, fun j => ⟨fun h => by omega, fun h => (nomatch h)⟩⟩
theorem isP_ahead (is : List Int) : isP is (-1) = true ↔ (∀ b ∈ is, 0 ≤ b) ∧ ahead is := by
  have := isP_iff is [] (-1) full_nil
  simpa [ahead] using this
/-! ### as values -/
def intOf : D → Option Int
  | .int i => some i
  | _ => none
/-- the answer of both judges -/
def part : D → Bool
  | .tup xs => match intsOf xs with
    | some is => isP is (-1)
    | none => false
  | _ => false
theorem intsOf_ints : ∀ is : List Int, intsOf (is.map .int) = some is
  | [] => rfl
  | i :: r => by rw [List.map_cons, intsOf, intsOf_ints r]; rfl
theorem intsOf_some : ∀ {xs : List D} {is : List Int}, intsOf xs = some is → xs = is.map .int
  | [], is, h => by cases h; rfl
  | d :: r, is, h => by
    cases d with
    | int i =>
      rw [intsOf] at h
      obtain ⟨l, h1, rfl⟩ := Option.map_eq_some_iff.mp h
      rw [intsOf_some h1]; rfl
    | _ => simp [intsOf] at h
theorem intsOf_none : ∀ {xs : List D}, intsOf xs = none → ∃ x ∈ xs, isInt x = false
  | [], h => by cases h
  | d :: r, h => by
    cases d with
    | int i =>
      rw [intsOf, Option.map_eq_none_iff] at h
      obtain ⟨x, h1, h2⟩ := intsOf_none h
      exact ⟨x, List.mem_cons_of_mem _ h1, h2⟩
    | _ => exact ⟨_, List.mem_cons_self, rfl⟩
/-! ### the program's judge -/
theorem integer_ok (k : Nat) {d : D} {S : Store} (h : known d S) : run Pgm (k + 1) 0 [d] S = .ok (.bl (isInt d)) S := whole_ok rfl k d h
def betw (d : D) (a b : Int) : Bool := match d with
  | .int i => decide (a ≤ i) && decide (i ≤ b)
  | _ => false
theorem between_ok (k : Nat) {d : D} (a b : Int) {S : Store} (h : known d S) : run Pgm (k + 2) 2 [d, .int a, .int b] S = .ok (.bl (betw d a b)) S := by
  rw [r_is_between]
  simp [b_is_between, getV, integer_ok k h, truth]
  cases d <;> simp [isInt, betw, Cop.ev, leD]
  by_cases q : a ≤ ‹Int› <;> simp [q]
/-- the loop of is_partition -/
def pLoop : List D → Int → Bool
  | [], _ => true
  | .int b :: r, g => decide (0 ≤ b) && decide (b ≤ g + 1) && pLoop r (max g b)
  | _ :: _, _ => false
def pBody : List Mini.S := [.iff (.not (.call 2 [(.var 2), (.k (.int 0)), (.bin .add (.var 1) (.k (.int 1)))])) [.ret (.k (.bl false))] [], .asg (.name 1) (.bi .max2 [(.var 1), (.var 2)])]
theorem pLoop_ok (k : Nat) (v : D) (S : Store) : ∀ (xs : List D) (g : Int) (s : Slot), (∀ x ∈ xs, known x S) →
    (pLoop xs g = true → ∃ ρ, forM (bodyF (cxk Pgm (k + 2)) (.name 2) pBody) xs [.val v, .val (.int g), s] S = .ok (.nx ρ) S) ∧
    (pLoop xs g = false → forM (bodyF (cxk Pgm (k + 2)) (.name 2) pBody) xs [.val v, .val (.int g), s] S = .ok (.rt (.bl false)) S) := by
  intro xs
  induction xs with
  | nil => intro g s _; exact ⟨fun _ => ⟨_, for_end⟩, fun h => (nomatch h)⟩
  | cons x r ih =>
    intro g s h
    have hb := between_ok k (d := x) 0 (g + 1) (h x (by simp))
    have stop : betw x 0 (g + 1) = false → forM (bodyF (cxk Pgm (k + 2)) (.name 2) pBody) (x :: r) [.val v, .val (.int g), s] S = .ok (.rt (.bl false)) S := fun e =>
      for_ret (S1 := S) (by simp [bodyF, pBody, getV, Bop.ev, addD, hb, e, truth])
    by_cases e : betw x 0 (g + 1) = true
    · cases x with
      | int b =>
        have e2 : (0 ≤ b) ∧ b ≤ g + 1 := by simpa [betw] using e
        have hp : pLoop (.int b :: r) g = pLoop r (max g b) := by rw [pLoop, decide_eq_true e2.1, decide_eq_true e2.2]; rfl
        have st : forM (bodyF (cxk Pgm (k + 2)) (.name 2) pBody) (.int b :: r) [.val v, .val (.int g), s] S = forM (bodyF (cxk Pgm (k + 2)) (.name 2) pBody) r [.val v, .val (.int (max g b)), .val (.int b)] S :=
          for_step (S1 := S) (by
            have hm : (if b > g then b else g) = max g b := by omega
            simp [bodyF, pBody, getV, Bop.ev, addD, hb, e, truth, Bi.ev, hm])
        rw [hp, st]
        exact ih _ _ fun x hx => h x (List.mem_cons_of_mem _ hx)
      | _ => simp [betw] at e
    · have e : betw x 0 (g + 1) = false := by simpa using e
      have hp : pLoop (x :: r) g = false := by
        cases x with
        | int b => rw [pLoop]; simp only [betw] at e; rw [e]; rfl
        | _ => rfl
      rw [hp]
      exact ⟨fun q => (nomatch q), fun _ => stop e⟩
theorem pLoop_ints : ∀ (is : List Int) (g : Int), pLoop (is.map .int) g = isP is g
  | [], _ => rfl
  | i :: r, g => by rw [List.map_cons, pLoop, pLoop_ints r, isP]
theorem pLoop_none : ∀ (xs : List D) (g : Int), (∃ x ∈ xs, isInt x = false) → pLoop xs g = false
  | [], _, ⟨_, h, _⟩ => (nomatch h)
  | x :: r, g, ⟨y, h, e⟩ => by
    cases x with
    | int i =>
      rcases List.mem_cons.mp h with rfl | h
      · cases e
      · rw [pLoop, pLoop_none r _ ⟨y, h, e⟩, Bool.and_false]
    | _ => rfl
theorem pLoop_part (xs : List D) : pLoop xs (-1) = part (.tup xs) := by
  unfold part
  dsimp only
  cases e : intsOf xs with
  | some is => dsimp only; rw [intsOf_some e]; exact pLoop_ints is _
  | none => exact pLoop_none xs _ (intsOf_none e)
theorem sub_tup {t : Ty} (h : t ≠ .tuple) : Ty.sub t .tuple = false := by cases t <;> first | rfl | exact absurd rfl h
/-- values that a judge may meet -/
def Dom (v : D) : Prop := fine 4 v = true
theorem fine_known {n : Nat} {d : D} (h : fine n d = true) (S : Store) : known d S := by
  cases d with
  | loc l => cases n <;> simp [fine] at h
  | _ => exact ⟨_, rfl⟩
theorem is_partition_ok (k : Nat) {v : D} {S : Store} (h : Dom v) : run Pgm (k + 3) 3 [v] S = .ok (.bl (part v)) S := by
  rw [r_is_partition]
  cases v with
  | tup xs =>
    obtain ⟨m, _, _, h2⟩ := fine_tup h
    obtain ⟨l1, l2⟩ := pLoop_ok k (.tup xs) S xs (-1) .no fun x hx => fine_known (h2 x hx) S
    have hfor : ∀ f, exS (cxk Pgm (k + 2)) (.for (.name 2) (.seq (.var 0)) f) [.val (.tup xs), .val (.int (-1)), .no] S = forM (bodyF (cxk Pgm (k + 2)) (.name 2) f) xs [.val (.tup xs), .val (.int (-1)), .no] S := fun f => by
      rw [exS_forB]; simp [getV, frzOf]
    rw [← pLoop_part]
    cases e : pLoop xs (-1) with
    | true =>
      obtain ⟨ρ, q⟩ := l1 e
      unfold pBody at q
      simp [b_is_partition, getV, tyOf, Ty.sub, truth, hfor, q]
    | false =>
      have q := l2 e
      unfold pBody at q
      simp [b_is_partition, getV, tyOf, Ty.sub, truth, hfor, q]
  | loc l => simp [Dom, fine] at h
  | _ => simp [b_is_partition, getV, tyOf, Ty.sub, truth, part]
end Mini.K28

/-! k28, the pure part, 2: the law's own judge. -/
namespace Mini.K28
open PySem (Str PyData)
theorem eqD_lst_nil {ys : List D} (h : ∀ y ∈ ys, plain 39 y = true) (S : Store) : eqD (.lst ys) (.lst []) S = some ys.isEmpty := by
  have h1 : ys.all (plain 39) = true := List.all_eq_true.mpr h
  unfold eqD
  simp only [rd]
  unfold eqv
  rw [if_pos (by simp only [plain, h1, List.all_nil, Bool.and_self])]
  cases ys <;> simp [pd, PyData.eqv, PyData.eqvAll]
theorem plain_mono : ∀ (n : Nat) (d : D), plain n d = true → plain (n + 1) d = true := by
  intro n
  induction n with
  | zero => intro d h; cases d <;> first | rfl | simp [plain] at h
  | succ n ih =>
    intro d h
    cases d with
    | tup xs => simp only [plain, List.all_eq_true] at h ⊢; exact fun x hx => ih x (h x hx)
    | lst xs => simp only [plain, List.all_eq_true] at h ⊢; exact fun x hx => ih x (h x hx)
    | non => rfl
    | bl _ => rfl
    | int _ => rfl
    | str _ => rfl
    | _ => simp [plain] at h
theorem plain_le {n m : Nat} (h : n ≤ m) {d : D} (p : plain n d = true) : plain m d = true := by
  obtain ⟨k, rfl⟩ : ∃ k, m = n + k := ⟨m - n, by omega⟩
  clear h
  induction k with
  | zero => exact p
  | succ k ih => exact plain_mono _ _ ih
/-- fine, and no dict in it -/
def flatD (n : Nat) (d : D) : Prop := fine n d = true ∧ plain n d = true
def badE : D → Bool
  | .int i => decide (i < 0)
  | _ => true
theorem whole16 (k : Nat) {d : D} {S : Store} (h : known d S) : run Pgm (k + 1) 16 [d] S = .ok (.bl (isInt d)) S := whole_ok rfl k d h
def gap (is : List Int) (k : Nat) : Bool := match is[k]? with
  | some b => decide (0 < b) && !decide (b - 1 ∈ is.take k)
  | none => false
theorem any_int (ys : List Int) (b : Int) : (ys.map D.int).any (fun y => PyData.eqv (pd y) (pd (.int b))) = decide (b ∈ ys) := by
  induction ys with
  | nil => rfl
  | cons y r ih =>
    rw [List.map_cons, List.any_cons, ih]
    simp only [pd, PyData.eqv, List.mem_cons]
    by_cases e : y = b
    · subst e; simp
    · simp [e, Ne.symm e]
theorem ahead_gap {is : List Int} (h : ∀ b ∈ is, 0 ≤ b) : isP is (-1) = ((List.range is.length).filter (gap is)).isEmpty := by
  have e : isP is (-1) = true ↔ ((List.range is.length).filter (gap is)).isEmpty = true := by
    rw [isP_ahead, List.isEmpty_iff, List.filter_eq_nil_iff]
    constructor
    · rintro ⟨_, q⟩ k hk hg
      unfold gap at hg
      cases e : is[k]? with
      | none => rw [e] at hg; cases hg
      | some b =>
        rw [e] at hg
        simp only [Bool.and_eq_true, decide_eq_true_eq, Bool.not_eq_true', decide_eq_false_iff_not] at hg
        exact hg.2 (q k b e hg.1)
    · intro q
      refine ⟨h, fun k b e hb => ?_⟩
      have := q k (List.mem_range.mpr (List.getElem?_eq_some_iff.mp e).1)
      unfold gap at this
      rw [e] at this
      simpa [hb] using this
  cases a : isP is (-1) <;> cases b : ((List.range is.length).filter (gap is)).isEmpty <;> simp_all
theorem filter_rangeL (p : Nat → Bool) (n : Nat) : (rangeL 0 (n : Int)).filter (fun d => match d with
    | .int i => p i.toNat
    | _ => false) = ((List.range n).filter p).map fun k => D.int (k : Nat) := by
  unfold rangeL
  simp only [Int.sub_zero, Int.toNat_natCast]
  rw [List.filter_map]
  congr 1
  · funext k; simp
  · congr 1
    funext k; simp
theorem judge_ok (k : Nat) {v : D} {S : Store} (h : Dom v) (hp : ∀ xs, v = .tup xs → ∀ x ∈ xs, plain 39 x = true) : run Pgm (k + 2) 20 [v] S = .ok (.bl (part v)) S := by
  rw [r__law_is_partition]
  cases v with
  | tup xs =>
    obtain ⟨m, _, h1, h2⟩ := fine_tup h
    have hp := hp xs rfl
    have hl : xs.length ≤ line := Nat.le_trans h1 (by decide)
    have c1 : evF (cxk Pgm (k + 1)) (.lc [2] (.var 2) (.name 2) (.seq (.var 0)) [(.or [(.not (.call 16 [(.var 2)])), (.cmp .lt (.var 2) (.k (.int 0)))])] []) [.val (.tup xs), .no, .no] S = .ok (.l (xs.filter badE)) S := by
      refine lc_filter (by simp [getV, frzOf]) (fun x hx => ?_) hl
      have q := whole16 k (fine_known (h2 x hx) S)
      cases x with
      | int i =>
        by_cases e : i < 0 <;> simp [turnE, wipe, getV, q, isInt, truth, Cop.ev, ltD, badE, e]
      | _ => simp [turnE, wipe, getV, q, isInt, truth, badE]
    have q1 := eqD_lst_nil (ys := xs.filter badE) (fun y hy => hp y (List.mem_filter.mp hy |>.1)) S
    cases e : (xs.filter badE).isEmpty with
    | false =>
      have : part (.tup xs) = false := by
        unfold part
        dsimp only
        cases q : intsOf xs with
        | none => rfl
        | some is =>
          have ex := intsOf_some q
          subst ex
          dsimp only
          cases r : isP is (-1) with
          | false => rfl
          | true =>
            have := (isP_ahead is).mp r
            have e2 : (is.map D.int).filter badE = [] := by
              rw [List.filter_eq_nil_iff]
              intro a ha
              obtain ⟨b, hb, rfl⟩ := List.mem_map.mp ha
              have := this.1 b hb
              simp [badE]; exact this
            rw [e2] at e; cases e
      rw [this]
      simp [b__law_is_partition, getV, tyOf, Ty.sub, truth, c1, Cop.ev, q1, e]
    | true =>
      have e2 : xs.filter badE = [] := List.isEmpty_iff.mp e
      have all : ∀ x ∈ xs, ∃ i : Int, x = .int i ∧ 0 ≤ i := fun x hx => by
        have := List.filter_eq_nil_iff.mp e2 x hx
        cases x with
        | int i => exact ⟨i, rfl, by simpa [badE] using this⟩
        | _ => simp [badE] at this
      obtain ⟨is, rfl⟩ : ∃ is : List Int, xs = is.map .int := by
        cases q : intsOf xs with
        | some is => exact ⟨is, intsOf_some q⟩
        | none =>
          obtain ⟨x, hx, e⟩ := intsOf_none q
          obtain ⟨i, rfl, _⟩ := all x hx
          cases e
      have nn : ∀ b ∈ is, 0 ≤ b := fun b hb => by
        obtain ⟨i, e, hi⟩ := all _ (List.mem_map_of_mem hb)
        cases e; exact hi
      have hr : rangeOk (is.length : Int) = true := rangeOk_nat (by simpa using hl)
      have c2 : evF (cxk Pgm (k + 1)) (.lc [1] (.var 1) (.name 1) (.range1 (.bi .len [(.var 0)])) [(.and [(.cmp .gt (.ix (.var 0) (.var 1)) (.k (.int 0))), (.cmp .notin (.bin .sub (.ix (.var 0) (.var 1)) (.k (.int 1))) (.slc (.var 0) none (some (.var 1))))])] []) [.val (.tup (is.map .int)), .no, .no] S = .ok (.l (((List.range is.length).filter (gap is)).map fun k => D.int (k : Nat))) S := by
        rw [← filter_rangeL]
        refine lc_filter (by simp [getV, Bi.ev, seqOf, asInt, hr]) (fun x hx => ?_) ?_
        · obtain ⟨i, hi, rfl⟩ := rangeL_mem hx
          have e1 : (is.map D.int)[i]? = some (.int is[i]) := by simp [hi]
          have e3 : is[i]? = some is[i] := List.getElem?_eq_getElem hi
          have e4 : atI (is.map D.int) (i : Int) = some (.int is[i]) := by rw [atI_nat (by simpa using hi)]; exact e1
          have e5 : cut (is.map D.int) none (some (i : Int)) = (is.map D.int).take i := by
            unfold cut sIx
            simp only [List.length_map, List.drop_zero]
            have : ¬ ((i : Int) < 0) := by omega
            rw [if_neg this]
            have : min (i : Int).toNat is.length = i := by simp; omega
            rw [this, Nat.sub_zero]
          have e6 : inD (.int (is[i] - 1)) (.tup ((is.map D.int).take i)) S = some (decide (is[i] - 1 ∈ is.take i)) := by
            rw [← List.map_take]
            unfold inD
            simp only [seqOf, Option.bind_some, inL]
            rw [if_pos (by rw [Bool.and_eq_true]; exact ⟨rfl, List.all_eq_true.mpr fun x hx => by obtain ⟨y, _, rfl⟩ := List.mem_map.mp hx; rfl⟩), any_int]
          by_cases q : 0 < is[i]
          · by_cases q2 : is[i] - 1 ∈ is.take i <;> simp [turnE, wipe, getV, ixD, seqOf, e4, Cop.ev, gtD, q, truth, Bop.ev, subD, asInt, slcD, e5, e6, q2, gap, e3]
          · simp [turnE, wipe, getV, ixD, seqOf, e4, Cop.ev, gtD, q, truth, gap, e3]
        · simp [rangeL]; simpa using hl
      have q2 := eqD_lst_nil (ys := ((List.range is.length).filter (gap is)).map fun k => D.int (k : Nat)) (fun y hy => by obtain ⟨i, _, rfl⟩ := List.mem_map.mp hy; rfl) S
      have e7 : part (.tup (is.map .int)) = ((List.range is.length).filter (gap is)).isEmpty := by
        unfold part
        dsimp only
        rw [intsOf_ints]
        exact ahead_gap nn
      have e8 : (((List.range is.length).filter (gap is)).map fun k => D.int (k : Nat)).isEmpty = ((List.range is.length).filter (gap is)).isEmpty := by
        cases (List.range is.length).filter (gap is) <;> rfl
      rw [e7, ← e8]
      simp only [e] at q1
      simp [b__law_is_partition, getV, tyOf, Ty.sub, truth, c1, Cop.ev, q1, c2, q2]
  | loc l => simp [Dom, fine] at h
  | _ => simp [b__law_is_partition, getV, tyOf, Ty.sub, truth, part]
end Mini.K28

/-! k28, the pure part, 3: blocks. -/
namespace Mini.K28
open PySem (Str PyData)
/-- the places of b -/
def posOf (is : List Int) (b : Nat) : List D := ((List.range is.length).filter fun k => is[k]? = some (b : Int)).map fun k => D.int (k : Nat)
/-- the greatest number, -1 of none -/
def top (is : List Int) : Int := is.foldl max (-1)
def count (is : List Int) : Nat := (top is + 1).toNat
def gath (is : List Int) : List D := (List.range (count is)).map fun b => D.tup (posOf is b)
theorem foldl_max : ∀ (r : List Int) (a b : Int), r.foldl max (max a b) = max a (r.foldl max b)
  | [], _, _ => rfl
  | x :: r, a, b => by rw [List.foldl_cons, List.foldl_cons, show max (max a b) x = max a (max b x) by omega, foldl_max r]
theorem top_ge (is : List Int) : -1 ≤ top is := by
  unfold top
  suffices h : ∀ (r : List Int) (a : Int), a ≤ r.foldl max a from h is (-1)
  intro r
  induction r with
  | nil => intro a; exact Int.le_refl _
  | cons x r ih => intro a; rw [List.foldl_cons]; exact Int.le_trans (by omega) (ih _)
theorem top_le {is : List Int} {m : Int} (h : ∀ b ∈ is, b ≤ m) (hm : -1 ≤ m) : top is ≤ m := by
  unfold top
  suffices g : ∀ (r : List Int) (a : Int), a ≤ m → (∀ b ∈ r, b ≤ m) → r.foldl max a ≤ m from g is (-1) hm h
  intro r
  induction r with
  | nil => intro a ha _; exact ha
  | cons x r ih =>
    intro a ha hb
    rw [List.foldl_cons]
    exact ih _ (by have := hb x (by simp); omega) fun b q => hb b (List.mem_cons_of_mem _ q)
theorem le_top {is : List Int} {b : Int} (h : b ∈ is) : b ≤ top is := by
  unfold top
  suffices g : ∀ (r : List Int) (a : Int), (∀ x ∈ r, x ≤ r.foldl max a) ∧ a ≤ r.foldl max a from (g is (-1)).1 b h
  intro r
  induction r with
  | nil => intro a; exact ⟨fun _ h => (nomatch h), Int.le_refl _⟩
  | cons x r ih =>
    intro a
    rw [List.foldl_cons]
    obtain ⟨h1, h2⟩ := ih (max a x)
    exact ⟨fun y hy => by rcases List.mem_cons.mp hy with rfl | hy; omega; exact h1 y hy, by omega⟩
/-- a growth function never leaps -/
theorem isP_le : ∀ (r : List Int) (g : Int), isP r g = true → r.foldl max g ≤ g + r.length
  | [], g, _ => by simp
  | b :: r, g, h => by
    rw [isP] at h
    simp only [Bool.and_eq_true, decide_eq_true_eq] at h
    have := isP_le r (max g b) h.2
    rw [List.foldl_cons, List.length_cons]
    push_cast
    omega
theorem count_le {is : List Int} (h : isP is (-1) = true) : count is ≤ is.length := by
  have := isP_le is (-1) h
  unfold count top
  omega
theorem maxI_top {is : List Int} (h : ∀ b ∈ is, 0 ≤ b) : (maxI is).getD (-1) = top is := by
  cases is with
  | nil => rfl
  | cons i r =>
    show r.foldl max i = r.foldl max (max (-1) i)
    rw [show max (-1) i = i by have := h i (by simp); omega]
theorem block_count_ok (k : Nat) {is : List Int} (h : ∀ b ∈ is, 0 ≤ b) (S : Store) : run Pgm (k + 1) 6 [.tup (is.map .int)] S = .ok (.int (count is : Nat)) S := by
  rw [r_block_count]
  have e : (maxI is).getD (-1) + 1 = (count is : Nat) := by
    rw [maxI_top h]; have := top_ge is; unfold count; omega
  simp [b_block_count, getV, Bi.ev, seqOf, intsOf_ints, Bop.ev, addD, e]
theorem mapO_id {f : D → Option D} : ∀ {xs : List D}, (∀ x ∈ xs, f x = some x) → mapO f xs = some xs
  | [], _ => rfl
  | x :: xs, h => by rw [mapO, h x (by simp), mapO_id fun y hy => h y (List.mem_cons_of_mem _ hy)]
theorem frz_fine {S : Store} {ex : Nat} : ∀ (m n : Nat) (d : D), m < n → fine m d = true → frzD S ex n d = some d := by
  intro m
  induction m with
  | zero =>
    intro n d hn h
    obtain ⟨n, rfl⟩ : ∃ q, n = q + 1 := ⟨n - 1, by omega⟩
    cases d with
    | dct ks vs => cases ks <;> cases vs <;> first | rfl | simp [fine] at h
    | non => rfl
    | bl _ => rfl
    | int _ => rfl
    | str _ => rfl
    | _ => simp [fine] at h
  | succ m ih =>
    intro n d hn h
    obtain ⟨n, rfl⟩ : ∃ q, n = q + 1 := ⟨n - 1, by omega⟩
    cases d with
    | dct ks vs => cases ks <;> cases vs <;> first | rfl | simp [fine] at h
    | non => rfl
    | bl _ => rfl
    | int _ => rfl
    | str _ => rfl
    | tup xs =>
      obtain ⟨q, e, _, h2⟩ := fine_tup h
      cases e
      show (mapO (frzD S ex n) xs).map D.tup = _
      rw [mapO_id fun x hx => ih n x (by omega) (h2 x hx)]; rfl
    | lst xs =>
      obtain ⟨q, e, _, h2⟩ := fine_lst h
      cases e
      show (mapO (frzD S ex n) xs).map D.lst = _
      rw [mapO_id fun x hx => ih n x (by omega) (h2 x hx)]; rfl
    | _ => simp [fine] at h
/-- a comprehension that makes an empty list each turn -/
theorem lc_cells {cx : Cx} {own : List Nat} {elt : E} {t : T} {it : I} {ifs : List E} {gs : List G} {ρ : Env} {S : Store} {xs : List D} (hi : evI cx it ρ S = .ok xs S) (h : ∀ x ∈ xs, ∀ S' : Store, turnE cx own elt t ifs gs ρ x S' = .ok [.loc S'.length] (S' ++ [.lst []])) (hl : xs.length ≤ line) :
    evF cx (.lc own elt t it ifs gs) ρ S = .ok (.l ((List.range xs.length).map fun i => D.loc (S.length + i))) (S ++ List.replicate xs.length (.lst [])) := by
  have e : ∀ (ys : List D) (S' : Store), (∀ x ∈ ys, x ∈ xs) → flatMapM (fun x => bnd (asgT t x (wipe ρ own)) fun ρ' => bnd (evIfs cx ifs ρ') fun k =>
      if k then evG cx gs (fun ρ2 => bnd (ev cx elt ρ2) fun d => ret [d]) ρ' else ret []) ys S' = .ok ((List.range ys.length).map fun i => D.loc (S'.length + i)) (S' ++ List.replicate ys.length (.lst [])) := by
    intro ys
    induction ys with
    | nil => intro S' _; simp
    | cons y ys ih =>
      intro S' hy
      have := h y (hy y (by simp)) S'
      unfold turnE at this
      rw [flatMapM_cons, bnd_def]
      simp only [asgT_def] at this ⊢
      rw [this]
      have := ih (S' ++ [.lst []]) fun x hx => hy x (List.mem_cons_of_mem _ hx)
      simp only [asgT_def] at this
      simp only [bnd_def, this, ret_def]
      rw [List.length_cons, List.range_succ_eq_map, List.map_cons, List.map_map, List.replicate_succ]
      simp [Function.comp_def, Nat.add_assoc, Nat.add_comm 1]
  rw [evF_lc, bnd_def, hi]
  simp only [bnd_def, noerr_def, e xs S (fun _ h => h), ret_def]
  rw [if_pos (by simpa using hl)]
  rfl
theorem posOf_succ (p : List Int) (x : Int) (b : Nat) : posOf (p ++ [x]) b = posOf p b ++ (if x = (b : Int) then [D.int (p.length : Nat)] else []) := by
  unfold posOf
  rw [List.length_append, List.length_singleton, List.range_succ, List.filter_append, List.map_append]
  congr 1
  · congr 1
    apply List.filter_congr
    intro k hk
    rw [List.getElem?_append_left (List.mem_range.mp hk)]
  · simp only [List.filter_cons, List.filter_nil]
    rw [List.getElem?_append_right (Nat.le_refl _), Nat.sub_self]
    by_cases e : x = (b : Int) <;> simp [e]
def cells (is : List Int) (m : Nat) : Store := (List.range m).map fun b => Cell.lst (posOf is b)
theorem cells_get {is : List Int} {m b : Nat} (h : b < m) : (cells is m)[b]? = some (.lst (posOf is b)) := by simp [cells, h]
theorem cells_set {is : List Int} {m b : Nat} (h : b < m) : (cells is m).set b (.lst (posOf is b ++ [D.int (is.length : Nat)])) = cells (is ++ [(b : Int)]) m := by
  apply List.ext_getElem?
  intro i
  by_cases e : i = b
  · subst e
    rw [List.getElem?_set_self (by simpa [cells] using h), cells_get h, posOf_succ]; simp
  · rw [List.getElem?_set_ne (Ne.symm e)]
    by_cases hi : i < m
    · rw [cells_get hi, cells_get hi, posOf_succ, if_neg (by omega), List.append_nil]
    · rw [List.getElem?_eq_none (by simpa [cells] using hi), List.getElem?_eq_none (by simpa [cells] using hi)]
theorem posOf_len (is : List Int) (b : Nat) : (posOf is b).length ≤ is.length := by
  unfold posOf
  rw [List.length_map]
  exact Nat.le_trans (List.length_filter_le _ _) (by simp)
def bBody : List Mini.S := [.ex (.mth .append (.ix (.var 1) (.var 3)) [(.var 2)])]
def locs (m : Nat) : D := .lst ((List.range m).map fun i => D.loc i)
theorem blocks_loop (cx : Cx) (m : Nat) (v : D) (whole : List Int) (hw : whole.length < line) : ∀ (r p : List Int) (s2 s3 s4 : Slot), p ++ r = whole → (∀ b ∈ r, 0 ≤ b ∧ b < m) →
    ∃ t2 t3, forM (bodyF cx (.tup [(.name 2), (.name 3)]) bBody) (((List.range' p.length r.length).zip (r.map D.int)).map fun q => D.tup [.int (q.1 : Nat), q.2]) [.val v, .val (locs m), s2, s3, s4] (cells p m) = .ok (.nx [.val v, .val (locs m), t2, t3, s4]) (cells (p ++ r) m) := by
  intro r
  induction r with
  | nil => intro p s2 s3 s4 _ _; exact ⟨s2, s3, by simp [for_end]⟩
  | cons x r ih =>
    intro p s2 s3 s4 e h
    obtain ⟨b, rfl⟩ : ∃ b : Nat, x = b := ⟨x.toNat, by have := (h x (by simp)).1; omega⟩
    have hb : b < m := by have := (h b (by simp)).2; omega
    obtain ⟨t2, t3, q⟩ := ih (p ++ [(b : Int)]) (.val (.int (p.length : Nat))) (.val (.int b)) s4 (by simpa using e) fun y hy => h y (List.mem_cons_of_mem _ hy)
    refine ⟨t2, t3, ?_⟩
    have hp : p.length + 1 + r.length = whole.length := by rw [← e]; simp; omega
    have hlt : (posOf p b).length < line := Nat.lt_of_le_of_lt (posOf_len p b) (by omega)
    have e1 : atI ((List.range m).map fun i => D.loc i) (b : Int) = some (.loc b) := by rw [atI_nat (by simpa using hb)]; simp [hb]
    have e2 : lstOf (.loc b) (cells p m) = some (posOf p b) := by simp only [lstOf, cells_get hb]
    have e3 : mthD .append (.loc b) [.int (p.length : Nat)] (cells p m) = .ok .non (cells (p ++ [(b : Int)]) m) := by
      unfold mthD
      simp only [cells_get hb]
      unfold mtOn
      simp only [if_pos hlt]
      rw [cells_set hb]
    rw [List.length_cons, List.map_cons, List.range'_succ, List.zip_cons_cons, List.map_cons]
    rw [for_step (S1 := cells (p ++ [(b : Int)]) m) (ρ' := [.val v, .val (locs m), .val (.int (p.length : Nat)), .val (.int b), s4]) (by
      simp [bodyF, bBody, getV, ixD, seqOf, locs, e1, e2, e3])]
    have : (p ++ [(b : Int)]).length = p.length + 1 := by simp
    rw [this] at q
    rw [q, List.append_assoc]
    rfl
theorem fine_int (n : Nat) (i : Int) : fine n (.int i) = true := by cases n <;> rfl
theorem fine_posOf (is : List Int) (b : Nat) (h : is.length ≤ 100000) : fine 1 (.tup (posOf is b)) = true := by
  simp only [fine, Bool.and_eq_true, decide_eq_true_eq, List.all_eq_true]
  refine ⟨Nat.le_trans (posOf_len is b) h, fun x hx => ?_⟩
  unfold posOf at hx
  obtain ⟨k, _, rfl⟩ := List.mem_map.mp hx
  rfl
theorem blocks_in_ok (k : Nat) {is : List Int} (h : isP is (-1) = true) (hl : is.length ≤ 100000) (S : Store) : run Pgm (k + 2) 7 [.tup (is.map .int)] S = .ok (.loc S.length) (S ++ [.lst (gath is)]) := by
  have nn : ∀ b ∈ is, 0 ≤ b := ((isP_ahead is).mp h).1
  have hc := count_le h
  have hlow : belows 0 [D.tup (is.map .int)] = true := by
    have : belows 0 (is.map D.int) = true := by
      clear h hl nn hc
      induction is with
      | nil => rfl
      | cons i r ih => rw [List.map_cons, belows, ih]; rfl
    simp [belows, below, this]
  rw [r_blocks_in (k + 1) _ S hlow]
  have hcl : count is ≤ line := Nat.le_trans hc (Nat.le_trans hl (by decide))
  have c1 : evF (cxk Pgm (k + 1)) (.lc [3] (.new .cell (.disp [])) (.name 3) (.range1 (.call 6 [(.var 0)])) [] []) [.val (.tup (is.map .int)), .no, .no, .no, .no] [] = .ok (.l ((List.range (count is)).map fun i => D.loc i)) (cells [] (count is)) := by
    have := lc_cells (cx := cxk Pgm (k + 1)) (own := [3]) (elt := .new .cell (.disp [])) (t := .name 3) (it := .range1 (.call 6 [(.var 0)])) (ifs := []) (gs := []) (ρ := [.val (.tup (is.map .int)), .no, .no, .no, .no]) (S := []) (xs := rangeL 0 (count is : Nat)) (by simp [getV, block_count_ok k nn, asInt, rangeOk_nat hcl]) (fun x hx S' => by simp [turnE, wipe]) (by simp [rangeL]; exact hcl)
    rw [this]
    have e : (rangeL 0 (count is : Nat)).length = count is := by simp [rangeL]
    rw [e]
    congr 1
    · congr 1
      simp
    · unfold cells posOf
      simp
      rw [List.map_const', List.length_range]
  obtain ⟨t2, t3, c2⟩ := blocks_loop (cxk Pgm (k + 1)) (count is) (.tup (is.map .int)) is (Nat.lt_of_le_of_lt hl (by decide)) is [] .no .no .no rfl (fun b hb => ⟨nn b hb, by have := le_top hb; have := nn b hb; unfold count; omega⟩)
  have c3 : exS (cxk Pgm (k + 1)) (.for (.tup [(.name 2), (.name 3)]) (.enum (.var 0)) bBody) [.val (.tup (is.map .int)), .val (locs (count is)), .no, .no, .no] (cells [] (count is)) = .ok (.nx [.val (.tup (is.map .int)), .val (locs (count is)), t2, t3, .no]) (cells is (count is)) := by
    rw [exS_forB]
    have e : ((List.range (is.map D.int).length).zip (is.map D.int)).map (fun q => D.tup [.int (q.1 : Nat), q.2]) = ((List.range' ([] : List Int).length is.length).zip (is.map D.int)).map fun q => D.tup [.int (q.1 : Nat), q.2] := by
      rw [List.length_map, List.range_eq_range']; rfl
    simp only [bnd_def, evI_enum, ev_var, getV, lift_some, ret_def, frzE, frzOf, List.getElem?_cons_zero]
    rw [e]
    exact c2
  have c4 : evF (cxk Pgm (k + 1)) (.lc [4] (.bi .tuple [(.var 4)]) (.name 4) (.seq (.var 1)) [] []) [.val (.tup (is.map .int)), .val (locs (count is)), t2, t3, .no] (cells is (count is)) = .ok (.l (gath is)) (cells is (count is)) := by
    have := lc_map (cx := cxk Pgm (k + 1)) (own := [4]) (elt := .bi .tuple [(.var 4)]) (t := .name 4) (it := .seq (.var 1)) (ifs := []) (gs := []) (ρ := [.val (.tup (is.map .int)), .val (locs (count is)), t2, t3, .no]) (S := cells is (count is)) (xs := (List.range (count is)).map fun i => D.loc i)
      (g := fun d => match d with
        | .loc b => .tup (posOf is b)
        | d => d) (by simp [getV, locs, frzOf]) (fun x hx => by
        obtain ⟨b, hb, rfl⟩ := List.mem_map.mp hx
        have hb := List.mem_range.mp hb
        have e : seqOf (.loc b) (cells is (count is)) = some (posOf is b) := by simp only [seqOf, cells_get hb]
        simp [turnE, wipe, getV, Bi.ev, e]) (by simpa using hcl)
    rw [this]
    unfold gath
    rw [List.map_map]
    rfl
  have c5 : mapO (frzD (cells is (count is) ++ [Cell.lst (gath is)]) (cells is (count is)).length 20) (gath is) = some (gath is) := mapO_id fun x hx => by
    unfold gath at hx
    obtain ⟨b, _, rfl⟩ := List.mem_map.mp hx
    exact frz_fine 1 20 _ (by decide) (fine_posOf is b hl)
  unfold bBody at c3
  unfold locs at c3 c4
  simp [b_blocks_in, c1, c3, c4, isoEnd, c5]
end Mini.K28

/-! k28, the pure part, 4: one value. -/
namespace Mini.K28
open PySem (Str PyData)
theorem same15 : ∀ (n k : Nat) (a b : D) {S : Store}, Sm S n a b → run Pgm (k + n) 15 [a, b] S = .ok (.bl true) S := fun n k a b {S} h => same_ok rfl n k a b h
theorem filter_rangeL' (p : Nat → Bool) (n : Nat) : (rangeL 0 (n : Int)).filter (fun d => match d with
    | .int i => p i.toNat
    | _ => false) = ((List.range n).filter p).map fun k => D.int (k : Nat) := filter_rangeL p n
theorem gathered_ok (k : Nat) {is : List Int} (h : isP is (-1) = true) (hl : is.length ≤ 100000) (S : Store) : run Pgm (k + 1) 23 [.tup (is.map .int)] S = .ok (.lst (gath is)) S := by
  rw [r__law_gathered]
  have hll : is.length ≤ line := Nat.le_trans hl (by decide)
  have hcl : count is ≤ line := Nat.le_trans (count_le h) hll
  have c1 : ∀ b : Nat, evF (cxk Pgm k) (.lc [2] (.var 2) (.name 2) (.range1 (.bi .len [(.var 0)])) [(.cmp .eq (.ix (.var 0) (.var 2)) (.var 1))] []) [.val (.tup (is.map .int)), .val (.int b), .no] S = .ok (.l (posOf is b)) S := fun b => by
    unfold posOf
    rw [← filter_rangeL']
    refine lc_filter (by simp [getV, Bi.ev, seqOf, asInt, rangeOk_nat hll]) (fun x hx => ?_) (by simp [rangeL]; exact hll)
    obtain ⟨i, hi, rfl⟩ := rangeL_mem hx
    have e3 : is[i]? = some is[i] := List.getElem?_eq_getElem hi
    have e4 : atI (is.map D.int) (i : Int) = some (.int is[i]) := by rw [atI_nat (by simpa using hi)]; simp [hi]
    by_cases e : is[i] = (b : Int) <;> simp [turnE, wipe, getV, ixD, seqOf, e4, Cop.ev, eqD, rd, eqv, plain, pd, PyData.eqv, truth, e3, e]
  have e0 : maxI (-1 :: is) = some (top is) := rfl
  have e1 : top is + 1 = (count is : Nat) := by have := top_ge is; unfold count; omega
  have c2 : evF (cxk Pgm k) (.lc [1] (.bi .tuple [(.new .frz (.lc [2] (.var 2) (.name 2) (.range1 (.bi .len [(.var 0)])) [(.cmp .eq (.ix (.var 0) (.var 2)) (.var 1))] []))]) (.name 1) (.range1 (.bin .add (.bi .max [(.bin .add (.tup [(.neg (.k (.int 1)))]) (.var 0))]) (.k (.int 1)))) [] []) [.val (.tup (is.map .int)), .no, .no] S = .ok (.l (gath is)) S := by
    have := lc_map (cx := cxk Pgm k) (own := [1]) (elt := .bi .tuple [(.new .frz (.lc [2] (.var 2) (.name 2) (.range1 (.bi .len [(.var 0)])) [(.cmp .eq (.ix (.var 0) (.var 2)) (.var 1))] []))]) (t := .name 1) (it := .range1 (.bin .add (.bi .max [(.bin .add (.tup [(.neg (.k (.int 1)))]) (.var 0))]) (.k (.int 1)))) (ifs := []) (gs := []) (ρ := [.val (.tup (is.map .int)), .no, .no]) (S := S) (xs := rangeL 0 (count is : Nat))
      (g := fun d => match d with
        | .int b => .tup (posOf is b.toNat)
        | d => d) (by
          have hb : is.length + 1 ≤ line := Nat.le_trans (by omega : is.length + 1 ≤ 100001) (by decide)
          have h1 : 1 ≤ line := by decide
          simp [getV, h1, Bop.ev, addD, Nat.add_comm 1, hb, Bi.ev, seqOf, intsOf, intsOf_ints, e0, e1, asInt, rangeOk_nat hcl]) (fun x hx => by
        obtain ⟨b, hb, rfl⟩ := rangeL_mem hx
        simp [turnE, wipe, c1, Bi.ev, seqOf]) (by simp [rangeL]; exact hcl)
    rw [this]
    congr 1
    unfold gath rangeL
    simp [Function.comp_def]
  simp [b__law_gathered, c2]
theorem str_ne {a b : Str} (h : a ≠ b) : (PyData.str a).eqv (PyData.str b) = false := by simp [PyData.eqv, h]
theorem is_partition_loc (k : Nat) {l : Nat} {xs : List D} {S : Store} (h : S[l]? = some (.lst xs)) : run Pgm (k + 3) 3 [.loc l] S = .ok (.bl false) S := by
  rw [r_is_partition]
  simp [b_is_partition, getV, tyOf, h, Ty.sub, truth]
/-- a value that is handed in: of the domain, or a list of the store -/
def Handed (v : D) (S : Store) (b : Bool) : Prop := (Dom v ∧ part v = b) ∨ ∃ l xs, v = .loc l ∧ S[l]? = some (.lst xs) ∧ b = false
theorem is_part (k : Nat) {v : D} {S : Store} {b : Bool} (h : Handed v S b) : run Pgm (k + 3) 3 [v] S = .ok (.bl b) S := by
  rcases h with ⟨h, rfl⟩ | ⟨l, xs, rfl, h, rfl⟩
  · exact is_partition_ok k h
  · exact is_partition_loc k h
theorem check_ok (k : Nat) {v : D} {S : Store} (h : Handed v S true) : run Pgm (k + 4) 4 [v] S = .ok .non S := by
  rw [r_check_partition]
  simp [b_check_partition, getV, is_part k h, truth]
theorem check_no (k : Nat) {v : D} {S : Store} (h : Handed v S false) : run Pgm (k + 4) 4 [v] S = .err 1 [v] S := by
  rw [r_check_partition]
  simp [b_check_partition, getV, is_part k h, truth]
theorem part_ints {v : D} (h : part v = true) : ∃ is : List Int, v = .tup (is.map .int) ∧ isP is (-1) = true := by
  cases v with
  | tup xs =>
    unfold part at h
    dsimp only at h
    cases e : intsOf xs with
    | none => rw [e] at h; cases h
    | some is => rw [e] at h; exact ⟨is, by rw [intsOf_some e], h⟩
  | _ => cases h
theorem exm11 : Pgm.exm 1 1 = some true := by decide
theorem fld1 : Pgm.fld 1 = some ("given" : Str) := by decide
theorem met_blocks (k : Nat) {is : List Int} (h : isP is (-1) = true) (hl : is.length ≤ 100000) (hd : Dom (.tup (is.map .int))) (b : Bool) (S : Store) : run Pgm (k + 6) 19 [.str "blocks", .tup (is.map .int), .bl b] S = .ok (.lst [.str "told", .loc S.length]) (S ++ [.lst (gath is)]) := by
  have hp : part (.tup (is.map .int)) = true := by unfold part; dsimp only; rw [intsOf_ints]; exact h
  have q1 := check_ok k (.inl ⟨hd, hp⟩ : Handed (.tup (is.map .int)) S true)
  have q2 := blocks_in_ok (k + 2) h hl S
  have q3 : run Pgm (k + 5) 9 [.tup (is.map .int)] S = .ok (.loc S.length) (S ++ [.lst (gath is)]) := by
    rw [r_blocks]
    simp [b_blocks, getV, q1, q2]
  rw [r__law_met]
  have h2 : 2 ≤ line := by decide
  cases b <;> simp [b__law_met, getV, Cop.ev, eqD, rd, eqv, plain, pd, PyData.eqv, truth, q3, h2, perm]
theorem met_refused (k : Nat) {v : D} (b : Bool) {S : Store} (h : Handed v S false) : run Pgm (k + 6) 19 [.str "blocks", v, .bl b] S = .ok (.lst [.str "partition", v]) S := by
  have q1 := check_no k h
  have q3 : run Pgm (k + 5) 9 [v] S = .err 1 [v] S := by
    rw [r_blocks]
    simp [b_blocks, getV, q1]
  rw [r__law_met]
  have h2 : 2 ≤ line := by decide
  cases b <;> simp [b__law_met, getV, Cop.ev, eqD, rd, eqv, plain, pd, PyData.eqv, truth, q3, h2, perm, exm11, fld1]
theorem fine_gath (is : List Int) (hl : is.length ≤ 100000) (hc : count is ≤ 100000) : fine 2 (.lst (gath is)) = true := by
  simp only [fine, Bool.and_eq_true, decide_eq_true_eq, List.all_eq_true]
  refine ⟨by unfold gath; simpa using hc, fun x hx => ?_⟩
  unfold gath at hx
  obtain ⟨b, _, rfl⟩ := List.mem_map.mp hx
  exact fine_posOf is b hl
theorem sm_str (S : Store) (n : Nat) (z : Str) : Sm S (n + 1) (.str z) (.str z) := .inl ⟨rfl, trivial⟩
theorem sm_told {S : Store} {l n : Nat} {z : Str} {xs : List D} (h : S[l]? = some (.lst xs)) (hf : fine (n + 1) (.lst xs) = true) : Sm S (n + 3) (.lst [.str z, .loc l]) (.lst [.str z, .lst xs]) := by
  refine .inr ⟨_, _, .inr ⟨rfl, rfl⟩, rfl, by show 2 ≤ line; decide, fun i x y h1 h2 => ?_⟩
  match i, h1, h2 with
  | 0, h1, h2 => cases h1; cases h2; exact sm_str S _ z
  | 1, h1, h2 =>
    cases h1; cases h2
    obtain ⟨m, e, q1, q2⟩ := fine_lst hf
    cases e
    refine .inr ⟨xs, xs, .inr ⟨by simp only [lstOf, h], rfl⟩, rfl, Nat.le_trans q1 (by decide), fun a x y e1 e2 => ?_⟩
    rw [e1] at e2; cases e2
    exact sm_fine n x (q2 x (List.mem_of_getElem? e1)) S
theorem sm_bl (S : Store) (b : Bool) : Sm S 1 (.bl b) (.bl b) := .inl ⟨rfl, trivial⟩
/-- one value is judged rightly -/
theorem value_ok (k : Nat) {v : D} (h : Dom v) (hp : ∀ xs, v = .tup xs → ∀ x ∈ xs, plain 39 x = true) (hs : ∀ xs, v = .lst xs → xs.length < 100000) (b : Bool) (S : Store) : ∃ T, run Pgm (k + 7) 26 [v, .bl b] S = .ok (.bl true) (S ++ T) := by
  have j1 := judge_ok (k + 4) (S := S) h hp
  have j2 := is_partition_ok (k + 3) (S := S) h
  have s1 := same15 1 (k + 5) _ _ (sm_bl S (part v))
  rw [r__law_value_right]
  cases e : part v with
  | true =>
    obtain ⟨is, rfl, hi⟩ := part_ints e
    have hl : is.length ≤ 100000 := by obtain ⟨m, _, q, _⟩ := fine_tup h; simpa using q
    have hc := Nat.le_trans (count_le hi) hl
    have c1 := copy_else (P := Pgm) (i := 17) rfl (k := k + 5) (S := S) (v := .tup (is.map .int)) rfl (by decide)
    have m1 := met_blocks k hi hl h b S
    have g1 := gathered_ok (k + 5) hi hl (S ++ [.lst (gath is)])
    have s2 := same15 4 (k + 2) _ _ (sm_told (S := S ++ [.lst (gath is)]) (l := S.length) (n := 1) (z := "told") (xs := gath is) (by simp) (fine_gath is hl hc))
    have e3 : (S ++ [Cell.lst (gath is)]).set S.length (.lst (gath is ++ [.str "more"])) = S ++ [.lst (gath is ++ [.str "more"])] := by simp
    have gl : (gath is).length < line := Nat.lt_of_le_of_lt (by unfold gath; simpa using hc) (by decide)
    have m2 := fun b => met_blocks k hi hl h b (S ++ [.lst (gath is ++ [.str "more"])])
    have g2 := gathered_ok (k + 5) hi hl (S ++ [.lst (gath is ++ [.str "more"])] ++ [.lst (gath is)])
    have s3 := same15 4 (k + 2) _ _ (sm_told (S := S ++ [.lst (gath is ++ [.str "more"])] ++ [.lst (gath is)]) (l := S.length + 1) (n := 1) (z := "told") (xs := gath is) (by rw [List.getElem?_append_right (by simp)]; simp) (fine_gath is hl hc))
    rw [e] at j1 j2 s1
    refine ⟨[.lst (gath is ++ [.str "more"]), .lst (gath is)], ?_⟩
    have h2 : 2 ≤ line := by decide
    have e4 : atI [D.str "told", D.loc S.length] 1 = some (.loc S.length) := rfl
    have e5 : lstOf (.loc S.length) (S ++ [Cell.lst (gath is)]) = some (gath is) := by simp [lstOf]
    have e6 : mthD .append (.loc S.length) [.str "more"] (S ++ [Cell.lst (gath is)]) = .ok .non (S ++ [.lst (gath is ++ [.str "more"])]) := by
      unfold mthD
      simp [mtOn, gl]
    simp only [List.append_assoc, List.singleton_append, List.cons_append, List.nil_append, List.length_append, List.length_cons, List.length_nil, Nat.zero_add] at m2 g2 s3
    cases b <;> simp [b__law_value_right, getV, j1, j2, perm, s1, truth, c1, m1, g1, s2, h2, ixD, seqOf, e4, e5, e6, m2, g2, s3]
  | false =>
    have h2 : 2 ≤ line := by decide
    rw [e] at j1 j2 s1
    by_cases hv : ∃ xs, v = .lst xs
    · obtain ⟨xs, rfl⟩ := hv
      have c1 := copy_lst (P := Pgm) (i := 17) rfl (k := k + 5) (S := S) xs
      have m1 := met_refused k b (S := S ++ [.lst xs]) (v := .loc S.length) (.inr ⟨S.length, xs, rfl, by simp, rfl⟩)
      obtain ⟨S', b1, b2⟩ := blamed_loc (P := Pgm) (i := 18) (j := 15) rfl rfl (k := k) (n := 4) (S := S ++ [.lst xs]) (l := S.length) (xs := xs) (by simp) h (hs xs rfl)
      have e4 : (S ++ [Cell.lst xs]).set S.length (.lst (xs ++ [.int 7])) = S ++ [.lst (xs ++ [.int 7])] := by simp
      rw [e4] at b2
      subst b2
      refine ⟨[.lst (xs ++ [.int 7])], ?_⟩
      cases b <;> simp [b__law_value_right, getV, j1, j2, perm, s1, truth, c1, m1, ixD, seqOf, atI, ixN, Cop.ev, eqD, rd, eqv, plain, pd, PyData.eqv, b1]
    · have ht : ∃ t, tyOf v S = some t ∧ t ≠ .list := by
        cases v with
        | lst xs => exact absurd ⟨xs, rfl⟩ hv
        | loc l => simp [Dom, fine] at h
        | scr xs => simp [Dom, fine] at h
        | _ => exact ⟨_, rfl, by decide⟩
      obtain ⟨t, ht, hn⟩ := ht
      have c1 := copy_else (P := Pgm) (i := 17) rfl (k := k + 5) (S := S) ht hn
      have m1 := met_refused k b (S := S) (v := v) (.inl ⟨h, e⟩)
      have b1 := blamed_plain (P := Pgm) (i := 18) (j := 15) rfl rfl (k := k) (n := 5) (S := S) (v := v) (sm_fine 4 v h S) ht hn
      refine ⟨[], ?_⟩
      cases b <;> simp [b__law_value_right, getV, j1, j2, perm, s1, truth, c1, m1, ixD, seqOf, atI, ixN, Cop.ev, eqD, rd, eqv, plain, pd, PyData.eqv, b1]
end Mini.K28

/-! k28, the pure part, 5: what is drawn. -/
namespace Mini.K28
open PySem (Str PyData)
theorem take13 (k : Nat) {S : Store} {l b : Nat} {m : Int} (hb : Bx S l b) (hb2 : b < 2 ^ 36) (hm : 0 < m) (hm2 : m < 2 ^ 62) :
    ∃ d S', run Pgm (k + 1) 13 [.loc l, .int m] S = .ok (.int d) S' ∧ 0 ≤ d ∧ d < m ∧ Bx S' l (b + 1) ∧ S'.length = S.length ∧ Keeps l S S' :=
  take_ok (c1 := 15487589) (c2 := 179426231) rfl (by decide) (by decide) k hb hb2 hm hm2
def Small (is : List Int) : Prop := is.length ≤ 11 ∧ ∀ b ∈ is, 0 ≤ b ∧ b ≤ 11
def dBody : List Mini.S := [.asg (.name 5) (.call 13 [(.var 0), (.bin .add (.var 4) (.k (.int 1)))]), .asg (.name 4) (.bi .max2 [(.var 4), (.bin .add (.var 5) (.k (.int 1)))]), .app 3 (.var 5)]
theorem drawn_loop (k : Nat) {lb : Nat} {v : D} {S0 : Store} : ∀ (r : List D) (p : List Int) (m : Int) (b : Nat) (s2 s5 : Slot) (S : Store), 0 ≤ m → m ≤ p.length → p.length + r.length ≤ 11 → (∀ x ∈ p, 0 ≤ x ∧ x ≤ 11) → Bx S lb b → b + r.length < 2 ^ 36 → Keeps lb S0 S →
    ∃ (q : List Int) (s : Slot) (S' : Store) (ρ : Env), forM (bodyF (cxk Pgm (k + 1)) (.name 2) dBody) r [.val (.loc lb), .val v, s2, .own (p.map .int), .val (.int m), s5] S = .ok (.nx [.val (.loc lb), .val v, s, .own ((p ++ q).map .int), ρ.getD 0 .no, ρ.getD 1 .no]) S' ∧ q.length = r.length ∧ (∀ x ∈ q, 0 ≤ x ∧ x ≤ 11) ∧ Bx S' lb (b + r.length) ∧ Keeps lb S0 S' := by
  intro r
  induction r with
  | nil => intro p m b s2 s5 S _ _ _ _ hb _ hk; exact ⟨[], s2, S, [.val (.int m), s5], by simp [for_end], rfl, by simp, hb, hk⟩
  | cons x r ih =>
    intro p m b s2 s5 S h0 h1 h2 h3 hb hb2 hk
    rw [List.length_cons] at h2 hb2
    obtain ⟨d, S1, e1, d0, d1, hb1, _, hk1⟩ := take13 k (m := m + 1) hb (by omega) (by omega) (by omega)
    have hlen : p.length < line := Nat.lt_of_lt_of_le (show p.length < 12 by omega) (by decide)
    obtain ⟨q, s, S', ρ, e, l1, l2, l3, l4⟩ := ih (p ++ [d]) (if d + 1 > m then d + 1 else m) (b + 1) (.val x) (.val (.int d)) S1 (by split <;> omega) (by rw [List.length_append]; simp; split <;> omega) (by simp; omega) (fun y hy => by
      rcases List.mem_append.mp hy with hy | hy
      · exact h3 y hy
      · rw [List.mem_singleton.mp hy]; omega) hb1 (by omega) (hk.trans hk1)
    refine ⟨d :: q, s, S', ρ, ?_, by simp [l1], fun y hy => ?_, by rw [List.length_cons, show b + (r.length + 1) = b + 1 + r.length by omega]; exact l3, l4⟩
    · rw [for_step (S1 := S1) (ρ' := [.val (.loc lb), .val v, .val x, .own ((p ++ [d]).map .int), .val (.int (if d + 1 > m then d + 1 else m)), .val (.int d)]) (by simp [bodyF, dBody, getV, Bop.ev, addD, e1, Bi.ev, hlen]), e, List.append_assoc]
      rfl
    · rcases List.mem_cons.mp hy with rfl | hy
      · omega
      · exact l2 y hy
theorem drawn_ok (k : Nat) {lb b n : Nat} (hn : n ≤ 11) {S : Store} (hb : Bx S lb b) (hb2 : b + 20 < 2 ^ 36) :
    ∃ (is : List Int) (S' : Store), run Pgm (k + 2) 21 [.loc lb, .int (n : Nat)] S = .ok (.tup (is.map .int)) S' ∧ Small is ∧ Bx S' lb (b + 11) ∧ Keeps lb S S' := by
  have hr : (rangeL 0 (n : Int)).length = n := by simp [rangeL]
  obtain ⟨q, s, S', ρ, e, l1, l2, l3, l4⟩ := drawn_loop k (lb := lb) (v := .int (n : Nat)) (S0 := S) (rangeL 0 (n : Int)) [] 0 b .no .no S (by omega) (by simp) (by rw [hr]; simpa using hn) (by simp) hb (by rw [hr]; omega) .refl
  rw [hr] at l1 l3
  refine ⟨q, S', ?_, ⟨by omega, l2⟩, l3.mono (by omega), l4⟩
  rw [r__law_drawn]
  have c1 : exS (cxk Pgm (k + 1)) (.for (.name 2) (.range1 (.var 1)) dBody) [.val (.loc lb), .val (.int (n : Nat)), .no, .own [], .val (.int 0), .no] S = .ok (.nx [.val (.loc lb), .val (.int (n : Nat)), s, .own (q.map .int), ρ.getD 0 .no, ρ.getD 1 .no]) S' := by
    rw [exS_forB]
    have hro : rangeOk (n : Int) = true := rangeOk_nat (Nat.le_trans hn (by decide))
    simpa [getV, asInt, hro] using e
  unfold dBody at c1
  simp [b__law_drawn, getV, slotOf, c1, frzS, Bi.ev, seqOf, line]
/-! ### near values -/
def small (d : D) : Prop := fine 3 d = true ∧ plain 39 d = true
structure Good (v : D) : Prop where
  dom : Dom v
  tup : ∀ xs, v = .tup xs → ∀ x ∈ xs, plain 39 x = true
  lst : ∀ xs, v = .lst xs → xs.length < 100000
theorem good_tup {xs : List D} (h : ∀ x ∈ xs, small x) (hl : xs.length ≤ 1000) : Good (.tup xs) := by
  refine ⟨?_, fun ys e x hx => ?_, fun _ e => (nomatch e)⟩
  · show fine 4 (.tup xs) = true
    simp only [fine, Bool.and_eq_true, decide_eq_true_eq, List.all_eq_true]
    exact ⟨by omega, fun x hx => (h x hx).1⟩
  · cases e; exact (h x hx).2
theorem good_lst {xs : List D} (h : ∀ x ∈ xs, small x) (hl : xs.length ≤ 1000) : Good (.lst xs) := by
  refine ⟨?_, fun _ e => (nomatch e), fun ys e => ?_⟩
  · show fine 4 (.lst xs) = true
    simp only [fine, Bool.and_eq_true, decide_eq_true_eq, List.all_eq_true]
    exact ⟨by omega, fun x hx => (h x hx).1⟩
  · cases e; omega
theorem small_int (i : Int) : small (.int i) := ⟨rfl, rfl⟩
theorem small_str (i : Str) : small (.str i) := ⟨rfl, rfl⟩
theorem small_non : small .non := ⟨rfl, rfl⟩
theorem small_ints {is : List Int} : ∀ x ∈ is.map D.int, small x := fun x hx => by obtain ⟨i, _, rfl⟩ := List.mem_map.mp hx; exact small_int i
theorem mem_cut {α : Type} {xs : List α} {lo hi : Option Int} {x : α} (h : x ∈ cut xs lo hi) : x ∈ xs := List.mem_of_mem_drop (List.mem_of_mem_take h)
theorem len_cut {α : Type} (xs : List α) (lo hi : Option Int) : (cut xs lo hi).length ≤ xs.length := by
  unfold cut
  rw [List.length_take, List.length_drop]; omega
theorem all_app {P : D → Prop} {xs ys : List D} (h1 : ∀ x ∈ xs, P x) (h2 : ∀ x ∈ ys, P x) : ∀ x ∈ xs ++ ys, P x := fun x hx => by
  rcases List.mem_append.mp hx with h | h
  · exact h1 x h
  · exact h2 x h
theorem all_one {P : D → Prop} {y : D} (h : P y) : ∀ x ∈ [y], P x := fun x hx => by rw [List.mem_singleton.mp hx]; exact h
def menu1 (is : List Int) : List D := [.lst (is.map .int), .tup (.int 0 :: is.map .int), .tup (is.map .int ++ [.int (top is + 2)]), .tup (is.map .int ++ [.int (-1)]), .non, .int 5, .str "01", .dct [] [], .bl true, .tup [.non], .tup [.str "0"], .tup [.bl false], .tup [.int 1], .tup [.int 0, .int 2], .tup [.tup [.int 0]], .lst [], .tup [.int 0, .bl true]]
theorem menu1_good {is : List Int} (h : Small is) : ∀ d ∈ menu1 is, Good d := by
  have hl : (is.map D.int).length ≤ 11 := by simpa using h.1
  have si := small_ints (is := is)
  have c : ∀ d : D, Dom d → (∀ xs, d ≠ .tup xs) → (∀ xs, d ≠ .lst xs) → Good d := fun d h1 h2 h3 => ⟨h1, fun xs e => absurd e (h2 xs), fun xs e => absurd e (h3 xs)⟩
  have sm : ∀ d : D, fine 3 d = true → plain 39 d = true → small d := fun _ a b => ⟨a, b⟩
  unfold menu1
  simp only [List.forall_mem_cons]
  refine ⟨good_lst si (by omega), good_tup (fun x hx => ?_) (by simp; simp at hl; omega), good_tup (all_app si (all_one (small_int _))) (by simp; simp at hl; omega), good_tup (all_app si (all_one (small_int _))) (by simp; simp at hl; omega),
    c _ rfl (fun _ e => (nomatch e)) (fun _ e => (nomatch e)), c _ rfl (fun _ e => (nomatch e)) (fun _ e => (nomatch e)), c _ rfl (fun _ e => (nomatch e)) (fun _ e => (nomatch e)), c _ rfl (fun _ e => (nomatch e)) (fun _ e => (nomatch e)), c _ rfl (fun _ e => (nomatch e)) (fun _ e => (nomatch e)),
    good_tup (all_one small_non) (by simp), good_tup (all_one (small_str _)) (by simp), good_tup (all_one ⟨rfl, rfl⟩) (by simp), good_tup (all_one (small_int _)) (by simp), good_tup (fun x hx => ?_) (by simp), good_tup (all_one ⟨rfl, rfl⟩) (by simp), good_lst (by simp) (by simp), good_tup (fun x hx => ?_) (by simp), fun _ h => (nomatch h)⟩
  · rcases List.mem_cons.mp hx with rfl | hx
    · exact small_int 0
    · exact si x hx
  · simp at hx; rcases hx with rfl | rfl <;> exact small_int _
  · simp at hx; rcases hx with rfl | rfl <;> exact ⟨rfl, rfl⟩
def nBody : List Mini.S := [.app 2 (.bin .add (.bin .add (.slc (.var 1) none (some (.var 3))) (.tup [(.var 4)])) (.slc (.var 1) (some (.bin .add (.var 3) (.k (.int 1)))) none))]
def putAt (xs : List D) (a : Int) (d : D) : D := .tup (cut xs none (some a) ++ [d] ++ cut xs (some (a + 1)) none)
theorem near_loop (cx : Cx) {lb : Nat} {xs : List D} (hx : xs.length ≤ 11) (a : Int) (S : Store) : ∀ (r : List D) (M : List D) (s4 : Slot), M.length + r.length ≤ 1000 →
    ∃ s, forM (bodyF cx (.name 4) nBody) r [.val (.loc lb), .val (.tup xs), .own M, .val (.int a), s4] S = .ok (.nx [.val (.loc lb), .val (.tup xs), .own (M ++ r.map (putAt xs a)), .val (.int a), s]) S := by
  intro r
  induction r with
  | nil => intro M s4 _; exact ⟨s4, by simp [for_end]⟩
  | cons x r ih =>
    intro M s4 h
    rw [List.length_cons] at h
    have h1 : M.length < line := Nat.lt_of_lt_of_le (show M.length < 1000 by omega) (by decide)
    have q1 := len_cut xs none (some a)
    have q2 := len_cut xs (some (a + 1)) none
    have h2 : (cut xs none (some a)).length + 1 ≤ line := Nat.le_trans (show _ ≤ 20 by omega) (by decide)
    have h3 : (cut xs none (some a)).length + 1 + (cut xs (some (a + 1)) none).length ≤ line := Nat.le_trans (show _ ≤ 30 by omega) (by decide)
    have h4 : 1 ≤ line := by decide
    obtain ⟨s, e⟩ := ih (M ++ [putAt xs a x]) (.val x) (by simp; omega)
    refine ⟨s, ?_⟩
    rw [for_step (S1 := S) (ρ' := [.val (.loc lb), .val (.tup xs), .own (M ++ [putAt xs a x]), .val (.int a), .val x]) (by
      simp [bodyF, nBody, getV, asInt, slcD, Bop.ev, addD, h1, h2, h3, h4, putAt]), e, List.append_assoc]
    rfl
end Mini.K28

/-! k28, the pure part, 6: near values. -/
namespace Mini.K28
open PySem (Str PyData)
theorem mixed14 (k : Nat) {S : Store} {lb b : Nat} {xs : List D} (hb : Bx S lb b) (hb2 : b + xs.length < 2 ^ 36) (hp : ∀ x ∈ xs, plain 39 x = true) (hn : xs.length ≤ 100000) :
    ∃ ys S', run Pgm (k + 2) 14 [.loc lb, .lst xs] S = .ok (.lst ys) S' ∧ ys.length = xs.length ∧ (∀ y ∈ ys, y ∈ xs) ∧ Bx S' lb (b + xs.length) ∧ Keeps lb S S' :=
  mixed_ok (c1 := 15487589) (c2 := 179426231) (tk := 13) rfl rfl (by decide) (by decide) (by decide) hb hb2 hp hn
theorem putAt_good {is : List Int} (h : Small is) (a : Int) {d : D} (hd : small d) : Good (putAt (is.map .int) a d) := by
  have si := small_ints (is := is)
  have q1 := len_cut (is.map D.int) none (some a)
  have q2 := len_cut (is.map D.int) (some (a + 1)) none
  rw [List.length_map] at q1 q2
  have := h.1
  exact good_tup (all_app (all_app (fun x hx => si x (mem_cut hx)) (all_one hd)) fun x hx => si x (mem_cut hx)) (by simp; omega)
theorem eq_nil_int (is : List Int) (S : Store) : eqD (.tup (is.map .int)) (.tup []) S = some is.isEmpty := by
  have h1 : (is.map D.int).all (plain 39) = true := List.all_eq_true.mpr fun x hx => by obtain ⟨i, _, rfl⟩ := List.mem_map.mp hx; rfl
  unfold eqD
  simp only [rd]
  unfold eqv
  rw [if_pos (by simp only [plain, h1, List.all_nil, Bool.and_self])]
  cases is <;> simp [pd, PyData.eqv, PyData.eqvAll]
theorem pick (k : Nat) {S : Store} {lb b : Nat} {M : List D} (hM : ∀ d ∈ M, Good d) (h0 : 0 < M.length) (h1 : M.length ≤ 1000) (hb : Bx S lb b) (hb2 : b < 2 ^ 36) :
    ∃ (d : D) (i : Int) (S' : Store), run Pgm (k + 1) 13 [.loc lb, .int (M.length : Nat)] S = .ok (.int i) S' ∧ atI M i = some d ∧ Good d ∧ Bx S' lb (b + 1) ∧ Keeps lb S S' := by
  obtain ⟨i, S', e, i0, i1, b1, _, k1⟩ := take13 k (m := (M.length : Nat)) hb hb2 (by omega) (by omega)
  have hi : i.toNat < M.length := by omega
  refine ⟨M[i.toNat], i, S', e, ?_, hM _ (List.getElem_mem hi), b1, k1⟩
  obtain ⟨n, rfl⟩ : ∃ n : Nat, i = n := ⟨i.toNat, by omega⟩
  rw [atI_nat (by simpa using hi)]
  simp
theorem near_ok (k : Nat) {lb b : Nat} {is : List Int} (h : Small is) {S : Store} (hb : Bx S lb b) (hb2 : b + 30 < 2 ^ 36) :
    ∃ (d : D) (S' : Store), run Pgm (k + 3) 22 [.loc lb, .tup (is.map .int)] S = .ok d S' ∧ Good d ∧ Bx S' lb (b + 30) ∧ Keeps lb S S' := by
  have e0 : maxI (-1 :: is) = some (top is) := rfl
  have h1 : 1 ≤ line := by decide
  have h2 : 2 ≤ line := by decide
  have hl := h.1
  have hb1 : is.length + 1 ≤ line := Nat.le_trans (by omega : is.length + 1 ≤ 100001) (by decide)
  have c1 : evF (cxk Pgm (k + 2)) (.disp [(.new .frz (.listOf (.var 1))), (.bin .add (.tup [(.k (.int 0))]) (.var 1)), (.bin .add (.var 1) (.tup [(.bin .add (.bi .max [(.bin .add (.tup [(.neg (.k (.int 1)))]) (.var 1))]) (.k (.int 2)))])), (.bin .add (.var 1) (.tup [(.neg (.k (.int 1)))])), (.k .non), (.k (.int 5)), (.k (.str "01")), .dct0, (.k (.bl true)), (.tup [(.k .non)]), (.tup [(.k (.str "0"))]), (.tup [(.k (.bl false))]), (.tup [(.k (.int 1))]), (.tup [(.k (.int 0)), (.k (.int 2))]), (.tup [(.tup [(.k (.int 0))])]), (.new .frz (.disp [])), (.tup [(.k (.int 0)), (.k (.bl true))])]) [.val (.loc lb), .val (.tup (is.map .int)), .no, .no, .no] S = .ok (.l (menu1 is)) S := by
    have h17 : 17 ≤ line := by decide
    simp [getV, seqOf, Bop.ev, addD, h1, h2, Nat.add_comm 1, hb1, Bi.ev, intsOf, intsOf_ints, e0, h17, menu1]
  have g1 := menu1_good h
  have l1 : (menu1 is).length = 17 := rfl
  rw [r__law_near]
  cases q : is.isEmpty with
  | true =>
    obtain ⟨d, i, S', t1, t2, t3, t4, t5⟩ := pick (k + 1) g1 (by rw [l1]; decide) (by rw [l1]; decide) hb (by omega)
    refine ⟨d, S', ?_, t3, t4.mono (by omega), t5⟩
    simp [-evF_disp, b__law_near, c1, slotOf, getV, Cop.ev, eq_nil_int, q, truth, frzS, Bi.ev, seqOf, t1, ixD, t2]
  | false =>
    have hpos : 0 < is.length := by cases is with
      | nil => cases q
      | cons _ _ => simp
    obtain ⟨a, S1, a1, a2, a3, a4, a5, a6⟩ := take13 (k + 1) (m := (is.length : Nat)) hb (by omega) (by omega) (by omega)
    obtain ⟨n, rfl⟩ : ∃ n : Nat, a = n := ⟨a.toNat, by omega⟩
    have hn : n < is.length := by omega
    have x1 : atI (is.map D.int) (n : Int) = some (.int is[n]) := by rw [atI_nat (by simpa using hn)]; simp [hn]
    have x2 : is[n].natAbs.log2 < 1920 := by
      have := h.2 is[n] (List.getElem_mem hn)
      exact Nat.lt_of_le_of_lt (Nat.log2_le_self _) (by omega)
    generalize hv : is[n] = v at *
    have six : ∀ d ∈ [D.int (v + 1), .int (v - 1), .str (Str.ofString (toString v)), .non, .int 0, .tup [.int v]], small d := by
      simp only [List.forall_mem_cons]
      exact ⟨small_int _, small_int _, small_str _, small_non, small_int _, ⟨rfl, rfl⟩, fun _ h => (nomatch h)⟩
    have h6 : 6 ≤ line := by decide
    obtain ⟨s, fl⟩ := near_loop (cxk Pgm (k + 2)) (lb := lb) (xs := is.map D.int) (by simpa using hl) (n : Int) S1 [D.int (v + 1), .int (v - 1), .str (Str.ofString (toString v)), .non, .int 0, .tup [.int v]] (menu1 is) .no (by rw [l1]; show 17 + 6 ≤ 1000; decide)
    have c2 : exS (cxk Pgm (k + 2)) (.for (.name 4) (.seq (.new .frz (.disp [(.bin .add (.ix (.var 1) (.var 3)) (.k (.int 1))), (.bin .sub (.ix (.var 1) (.var 3)) (.k (.int 1))), (.bi .str [(.ix (.var 1) (.var 3))]), (.k .non), (.k (.int 0)), (.tup [(.ix (.var 1) (.var 3))])]))) nBody) [.val (.loc lb), .val (.tup (is.map .int)), .own (menu1 is), .val (.int n), .no] S1 = .ok (.nx [.val (.loc lb), .val (.tup (is.map .int)), .own (menu1 is ++ [D.int (v + 1), .int (v - 1), .str (Str.ofString (toString v)), .non, .int 0, .tup [.int v]].map (putAt (is.map .int) n)), .val (.int n), s]) S1 := by
      rw [exS_forB]
      have : evI (cxk Pgm (k + 2)) (.seq (.new .frz (.disp [(.bin .add (.ix (.var 1) (.var 3)) (.k (.int 1))), (.bin .sub (.ix (.var 1) (.var 3)) (.k (.int 1))), (.bi .str [(.ix (.var 1) (.var 3))]), (.k .non), (.k (.int 0)), (.tup [(.ix (.var 1) (.var 3))])]))) [.val (.loc lb), .val (.tup (is.map .int)), .own (menu1 is), .val (.int n), .no] S1 = .ok [D.int (v + 1), .int (v - 1), .str (Str.ofString (toString v)), .non, .int 0, .tup [.int v]] S1 := by
        simp [getV, ixD, seqOf, x1, Bop.ev, addD, subD, Bi.ev, x2, h1, h6, frzOf]
      rw [bnd_def, this]
      exact fl
    have c3 : evF (cxk Pgm (k + 2)) (.lc [4] (.bin .add (.var 4) (.k (.int 1))) (.name 4) (.seq (.var 1)) [] []) = evF (cxk Pgm (k + 2)) (.lc [4] (.bin .add (.var 4) (.k (.int 1))) (.name 4) (.seq (.var 1)) [] []) := rfl
    have c3 : ∀ (M : List D), evF (cxk Pgm (k + 2)) (.lc [4] (.bin .add (.var 4) (.k (.int 1))) (.name 4) (.seq (.var 1)) [] []) [.val (.loc lb), .val (.tup (is.map .int)), .own M, .val (.int n), s] S1 = .ok (.l (is.map fun i => D.int (i + 1))) S1 := fun M => by
      have := lc_map (cx := cxk Pgm (k + 2)) (own := [4]) (elt := .bin .add (.var 4) (.k (.int 1))) (t := .name 4) (it := .seq (.var 1)) (ifs := []) (gs := []) (ρ := [.val (.loc lb), .val (.tup (is.map .int)), .own M, .val (.int n), s]) (S := S1) (xs := is.map D.int)
        (g := fun d => match d with
          | .int i => .int (i + 1)
          | d => d) (by simp [getV, frzOf]) (fun x hx => by
          obtain ⟨i, _, rfl⟩ := List.mem_map.mp hx
          simp [turnE, wipe, getV, Bop.ev, addD]) (by simp; exact Nat.le_trans hl (by decide))
      rw [this, List.map_map]
      rfl
    obtain ⟨ys, S2, m1, m2, m3, m4, m5⟩ := mixed14 k (S := S1) (lb := lb) (b := b + 1) (xs := is.map D.int) a4 (by simp; omega) (fun x hx => (small_ints x hx).2) (by simp; omega)
    rw [List.length_map] at m4
    generalize hM : (menu1 is ++ [D.int (v + 1), .int (v - 1), .str (Str.ofString (toString v)), .non, .int 0, .tup [.int v]].map (putAt (is.map .int) n)) = M at *
    have ML : M.length = 23 := by rw [← hM]; simp [l1]
    have MG : ∀ d ∈ M, Good d := by
      rw [← hM]
      refine all_app g1 fun x hx => ?_
      obtain ⟨d, hd, rfl⟩ := List.mem_map.mp hx
      exact putAt_good h _ (six d hd)
    have si := small_ints (is := is)
    have q1 := len_cut (is.map D.int) none (some (n : Int))
    have q2 := len_cut (is.map D.int) (some ((n : Int) + 1)) none
    rw [List.length_map] at q1 q2
    have gd1 : Good (.tup (cut (is.map D.int) none (some (n : Int)) ++ cut (is.map D.int) (some ((n : Int) + 1)) none)) := good_tup (all_app (fun x hx => si x (mem_cut hx)) fun x hx => si x (mem_cut hx)) (by simp; omega)
    have gd2 : Good (.tup (is.map fun i => D.int (i + 1))) := good_tup (fun x hx => by obtain ⟨i, _, rfl⟩ := List.mem_map.mp hx; exact small_int _) (by simp; omega)
    have gd3 : Good (.tup ys) := good_tup (fun y hy => si y (m3 y hy)) (by rw [m2]; simp; omega)
    obtain ⟨d, i, S', t1, t2, t3, t4, t5⟩ := pick (k + 1) (M := M ++ [.tup (cut (is.map D.int) none (some (n : Int)) ++ cut (is.map D.int) (some ((n : Int) + 1)) none)] ++ [.tup (is.map fun i => D.int (i + 1))] ++ [.tup ys]) (all_app (all_app (all_app MG (all_one gd1)) (all_one gd2)) (all_one gd3)) (by simp) (by simp [ML]) m4 (by omega)
    refine ⟨d, S', ?_, t3, t4.mono (by omega), (a6.trans m5).trans t5⟩
    have k1 : M.length < line := by rw [ML]; decide
    have k2 : M.length + 1 < line := by rw [ML]; decide
    have k3 : M.length + 1 + 1 < line := by rw [ML]; decide
    have k4 : (cut (is.map D.int) none (some (n : Int))).length + (cut (is.map D.int) (some ((n : Int) + 1)) none).length ≤ line := Nat.le_trans (show _ ≤ 30 by omega) (by decide)
    have k5 : is.length ≤ line := Nat.le_trans hl (by decide)
    unfold nBody at c2
    simp only [List.append_assoc, List.length_append, List.length_cons, List.length_nil, List.cons_append, List.nil_append, Int.natCast_add] at t1 t2
    simp at t1
    simp [-evF_disp, b__law_near, c1, slotOf, getV, Cop.ev, eq_nil_int, q, truth, Bi.ev, seqOf, a1, c2, k1, k2, k3, k4, asInt, slcD, Bop.ev, addD, c3, m1, frzS, t1, ixD, t2]
end Mini.K28

/-! k28, the pure part, 7: all partitions of few points. -/
namespace Mini.K28
open PySem (Str PyData)
def lstOfR : R D → List D
  | .ok (.lst xs) _ => xs
  | _ => []
def allP (p : Nat) : List D := lstOfR (run Pgm 2 24 [.int (p : Nat)] [])
theorem all_run (k : Nat) (S : Store) : ∀ p : Fin 7, run Pgm (k + 1) 24 [.int (p.1 : Nat)] S = .ok (.lst (allP p.1)) S
  | 0 => by kernel_rfl
  | 1 => by kernel_rfl
  | 2 => by kernel_rfl
  | 3 => by kernel_rfl
  | 4 => by kernel_rfl
  | 5 => by kernel_rfl
  | 6 => by kernel_rfl
theorem number_run (k : Nat) (S : Store) : ∀ p : Fin 7, run Pgm (k + 1) 25 [.int (p.1 : Nat)] S = .ok (.int (allP p.1).length) S
  | 0 => by kernel_rfl
  | 1 => by kernel_rfl
  | 2 => by kernel_rfl
  | 3 => by kernel_rfl
  | 4 => by kernel_rfl
  | 5 => by kernel_rfl
  | 6 => by kernel_rfl
theorem parts_run (k : Nat) (S : Store) : ∀ p : Fin 7, run Pgm (k + 2) 8 [.int (p.1 : Nat)] S = .ok (.loc S.length) (S ++ [.lst (allP p.1)])
  | 0 => by kernel_rfl
  | 1 => by kernel_rfl
  | 2 => by kernel_rfl
  | 3 => by kernel_rfl
  | 4 => by kernel_rfl
  | 5 => by kernel_rfl
  | 6 => by kernel_rfl
def okP (d : D) : Bool := fine 4 d && part d && plain 40 d
theorem all_good : ∀ p : Fin 7, (fine 2 (.lst (allP p.1)) && (allP p.1).all okP && decide (0 < (allP p.1).length)) = true := by decide +kernel
end Mini.K28

/-! k28, the pure part, 8: the law. -/
namespace Mini.K28
open PySem (Str PyData)
def tBody : List Mini.S := [.asg (.name 8) (.call 21 [(.var 2), (.ite (.cmp .lt (.var 4) (.k (.int 2))) (.call 13 [(.var 2), (.k (.int 12))]) (.call 13 [(.var 2), (.k (.int 7))]))]), .iff (.or [(.not (.call 26 [(.var 8), (.var 3)])), (.not (.call 26 [(.call 22 [(.var 2), (.var 8)]), (.not (.var 3))]))]) [.ret (.k (.bl false))] [], .asg (.name 3) (.not (.var 3))]
theorem small_good {is : List Int} (h : Small is) : Good (.tup (is.map .int)) := good_tup small_ints (by have := h.1; simp; omega)
theorem value26 (k : Nat) {v : D} (h : Good v) (b : Bool) (S : Store) : ∃ T, run Pgm (k + 7) 26 [v, .bl b] S = .ok (.bl true) (S ++ T) := value_ok k h.dom h.tup h.lst b S
theorem turn_ok (k : Nat) {lb c : Nat} {b : Bool} {t : Int} {v0 v1 : Slot} {s4 s5 s6 s7 s8 s9 s10 s11 : Slot} {S : Store} (hb : Bx S lb c) (hb2 : c + 100 < 2 ^ 36) :
    ∃ s8' S', bodyF (cxk Pgm (k + 8)) (.name 4) tBody (.int t) [v0, v1, .val (.loc lb), .val (.bl b), s4, s5, s6, s7, s8, s9, s10, s11] S = .ok (.nx [v0, v1, .val (.loc lb), .val (.bl !b), .val (.int t), s5, s6, s7, s8', s9, s10, s11]) S' ∧ Bx S' lb (c + 42) := by
  have pts : ∃ (n : Nat) (S1 : Store), n ≤ 11 ∧ ev (cxk Pgm (k + 8)) (.ite (.cmp .lt (.var 4) (.k (.int 2))) (.call 13 [(.var 2), (.k (.int 12))]) (.call 13 [(.var 2), (.k (.int 7))])) [v0, v1, .val (.loc lb), .val (.bl b), .val (.int t), s5, s6, s7, s8, s9, s10, s11] S = .ok (.int (n : Nat)) S1 ∧ Bx S1 lb (c + 1) := by
    by_cases ht : t < 2
    · obtain ⟨d, S1, e, d0, d1, b1, _⟩ := take13 (k + 7) (m := 12) hb (by omega) (by decide) (by decide)
      obtain ⟨n, rfl⟩ : ∃ n : Nat, d = n := ⟨d.toNat, by omega⟩
      exact ⟨n, S1, by omega, by simp [getV, Cop.ev, ltD, ht, truth, e], b1⟩
    · obtain ⟨d, S1, e, d0, d1, b1, _⟩ := take13 (k + 7) (m := 7) hb (by omega) (by decide) (by decide)
      obtain ⟨n, rfl⟩ : ∃ n : Nat, d = n := ⟨d.toNat, by omega⟩
      exact ⟨n, S1, by omega, by simp [getV, Cop.ev, ltD, ht, truth, e], b1⟩
  obtain ⟨n, S1, hn, e1, b1⟩ := pts
  obtain ⟨is, S2, e2, hs, b2, _⟩ := drawn_ok (k + 6) hn b1 (by omega)
  obtain ⟨T, e3⟩ := value26 (k + 1) (small_good hs) b S2
  obtain ⟨d, S4, e4, hd, b4, _⟩ := near_ok (k + 5) hs (b2.app (T := T)) (by omega)
  obtain ⟨T', e5⟩ := value26 (k + 1) hd (!b) S4
  refine ⟨.val (.tup (is.map .int)), S4 ++ T', ?_, (b4.app).mono (by omega)⟩
  simp [-ev_ite, bodyF, tBody, getV, e1, e2, e3, truth, e4, e5]
theorem turns_ok (k : Nat) {lb : Nat} {v0 v1 : Slot} : ∀ (ts : List Int) (c : Nat) (b : Bool) (s4 s5 s6 s7 s8 s9 s10 s11 : Slot) (S : Store), Bx S lb c → c + 100 * ts.length < 2 ^ 36 →
    ∃ b' s4' s8' S', forM (bodyF (cxk Pgm (k + 8)) (.name 4) tBody) (ts.map .int) [v0, v1, .val (.loc lb), .val (.bl b), s4, s5, s6, s7, s8, s9, s10, s11] S = .ok (.nx [v0, v1, .val (.loc lb), .val (.bl b'), s4', s5, s6, s7, s8', s9, s10, s11]) S' ∧ Bx S' lb (c + 42 * ts.length) := by
  intro ts
  induction ts with
  | nil => intro c b s4 s5 s6 s7 s8 s9 s10 s11 S hb _; exact ⟨b, s4, s8, S, by simp [for_end], hb⟩
  | cons t ts ih =>
    intro c b s4 s5 s6 s7 s8 s9 s10 s11 S hb hc
    rw [List.length_cons] at hc
    obtain ⟨s8', S1, e, b1⟩ := turn_ok k (t := t) (v0 := v0) (v1 := v1) (s4 := s4) (s5 := s5) (s6 := s6) (s7 := s7) (s8 := s8) (s9 := s9) (s10 := s10) (s11 := s11) (b := b) hb (by omega)
    obtain ⟨b', s4', s8'', S', e2, b2⟩ := ih (c + 42) (!b) (.val (.int t)) s5 s6 s7 s8' s9 s10 s11 S1 b1 (by omega)
    exact ⟨b', s4', s8'', S', by rw [List.map_cons, for_step e]; exact e2, b2.mono (by rw [List.length_cons]; omega)⟩
theorem exm2 : Pgm.exm 2 1 = some false := by decide
theorem exm22 : Pgm.exm 2 2 = some true := by decide
theorem fld2 : Pgm.fld 2 = some ("given" : Str) := by decide
theorem nab : ¬ (Str.ofString "all" = Str.ofString "blocks") := by decide
theorem met_all (k : Nat) (p : Fin 7) (b : Bool) (S : Store) : run Pgm (k + 5) 19 [.str "all", .int (p.1 : Nat), .bl b] S = .ok (.lst [.str "told", .loc S.length]) (S ++ [.lst (allP p.1)]) := by
  have i2 : run Pgm (k + 3) 5 [.int (p.1 : Nat)] S = .ok .non S := by
    have : run Pgm (k + 2) 1 [.int (p.1 : Nat)] S = .ok (.bl true) S := by
      rw [r_is_count]
      simp [b_is_count, getV, integer_ok k (d := .int (p.1 : Nat)) (S := S) ⟨_, rfl⟩, isInt, truth, Cop.ev, geD]
    rw [r_check_points]
    simp [b_check_points, getV, this, truth]
  have h2 : 2 ≤ line := by decide
  have q3 : run Pgm (k + 4) 10 [.int (p.1 : Nat)] S = .ok (.loc S.length) (S ++ [.lst (allP p.1)]) := by
    rw [r_partitions]
    simp [b_partitions, getV, i2, parts_run (k + 1) S p]
  rw [r__law_met]
  cases b <;> simp [b__law_met, getV, Cop.ev, eqD, rd, eqv, plain, pd, PyData.eqv, truth, nab, q3, h2, perm]
/-- no number of points -/
def noCount (v : D) (S : Store) : Prop := known v S ∧ (∀ i, v = .int i → i < 0)
theorem met_wrong (k : Nat) {v : D} (b : Bool) {S : Store} (h : noCount v S) : run Pgm (k + 5) 19 [.str "all", v, .bl b] S = .ok (.lst [.str "points", v]) S := by
  have q1 : run Pgm (k + 2) 1 [v] S = .ok (.bl false) S := by
    rw [r_is_count]
    have := integer_ok k h.1
    cases v with
    | int i =>
      have := h.2 i rfl
      simp [b_is_count, getV, integer_ok k h.1, isInt, truth, Cop.ev, geD]
      omega
    | _ => simp [b_is_count, getV, this, isInt, truth]
  have q2 : run Pgm (k + 3) 5 [v] S = .err 2 [v] S := by
    rw [r_check_points]
    simp [b_check_points, getV, q1, truth]
  have h2 : 2 ≤ line := by decide
  have q3 : run Pgm (k + 4) 10 [v] S = .err 2 [v] S := by
    rw [r_partitions]
    simp [b_partitions, getV, q2]
  rw [r__law_met]
  cases b <;> simp [b__law_met, getV, Cop.ev, eqD, rd, eqv, plain, pd, PyData.eqv, truth, nab, q3, h2, perm, exm2, exm22, fld2]
def wrongs : List D := [.int (-1), .non, .bl true, .str "2", .tup [.int 2], .lst [.int 2], .dct [] [], .int (-1000000000), .tup [.int 0]]
def b2 : List Mini.S := [.asg (.name 6) (.call 17 [(.ix (.new .frz (.disp [(.neg (.k (.int 1))), (.k .non), (.k (.bl true)), (.k (.str "2")), (.tup [(.k (.int 2))]), (.new .frz (.disp [(.k (.int 2))])), .dct0, (.neg (.bin .pow (.k (.int 10)) (.k (.int 9)))), (.tup [(.k (.int 0))])])) (.call 13 [(.var 2), (.k (.int 9))]))]), .asg (.name 7) (.call 19 [(.k (.str "all")), (.var 6), (.var 3)]), .iff (.or [(.cmp .ne (.ix (.var 7) (.k (.int 0))) (.k (.str "points"))), (.not (.call 18 [(.ix (.var 7) (.k (.int 1))), (.var 6)]))]) [.ret (.k (.bl false))] []]
theorem part2_ok (k : Nat) {lb c : Nat} {b : Bool} {v0 v1 s4 s5 s6 s7 s8 s9 s10 s11 : Slot} {S : Store} (hb : Bx S lb c) (hb2 : c < 2 ^ 36) :
    ∃ s6' s7' S', exSs (cxk Pgm (k + 8)) b2 [v0, v1, .val (.loc lb), .val (.bl b), s4, s5, s6, s7, s8, s9, s10, s11] S = .ok (.nx [v0, v1, .val (.loc lb), .val (.bl b), s4, s5, s6', s7', s8, s9, s10, s11]) S' := by
  obtain ⟨d, S1, e, d0, d1, _⟩ := take13 (k + 7) (m := 9) hb hb2 (by decide) (by decide)
  have h1 : 1 ≤ line := by decide
  have h9 : 9 ≤ line := by decide
  have hp : powOk 10 9 = true := powOk_of (by decide) (by decide) (by decide)
  obtain ⟨n, rfl⟩ : ∃ n : Nat, d = n := ⟨d.toNat, by omega⟩
  have ix : ∃ w, atI wrongs (n : Int) = some w ∧ (w = .lst [.int 2] ∨ (fine 4 w = true ∧ (∃ t, tyOf w S1 = some t ∧ t ≠ .list) ∧ noCount w S1)) := by
    have hn : n < 9 := by omega
    rw [atI_nat (show n < wrongs.length from hn)]
    match n, hn with
    | 0, _ => exact ⟨_, rfl, .inr ⟨rfl, ⟨_, rfl, by decide⟩, ⟨_, rfl⟩, fun i e => by cases e; decide⟩⟩
    | 1, _ => exact ⟨_, rfl, .inr ⟨rfl, ⟨_, rfl, by decide⟩, ⟨_, rfl⟩, fun i e => (nomatch e)⟩⟩
    | 2, _ => exact ⟨_, rfl, .inr ⟨rfl, ⟨_, rfl, by decide⟩, ⟨_, rfl⟩, fun i e => (nomatch e)⟩⟩
    | 3, _ => exact ⟨_, rfl, .inr ⟨rfl, ⟨_, rfl, by decide⟩, ⟨_, rfl⟩, fun i e => (nomatch e)⟩⟩
    | 4, _ => exact ⟨_, rfl, .inr ⟨rfl, ⟨_, rfl, by decide⟩, ⟨_, rfl⟩, fun i e => (nomatch e)⟩⟩
    | 5, _ => exact ⟨_, rfl, .inl rfl⟩
    | 6, _ => exact ⟨_, rfl, .inr ⟨rfl, ⟨_, rfl, by decide⟩, ⟨_, rfl⟩, fun i e => (nomatch e)⟩⟩
    | 7, _ => exact ⟨_, rfl, .inr ⟨rfl, ⟨_, rfl, by decide⟩, ⟨_, rfl⟩, fun i e => by cases e; decide⟩⟩
    | 8, _ => exact ⟨_, rfl, .inr ⟨rfl, ⟨_, rfl, by decide⟩, ⟨_, rfl⟩, fun i e => (nomatch e)⟩⟩
  obtain ⟨w, w1, w2⟩ := ix
  unfold wrongs at w1
  rcases w2 with rfl | ⟨w2, ⟨t, w3, w4⟩, w5⟩
  · have c1 := copy_lst (P := Pgm) (i := 17) rfl (k := k + 7) (S := S1) [.int 2]
    have m1 := met_wrong (k + 3) (v := .loc S1.length) b (S := S1 ++ [.lst [.int 2]]) ⟨⟨.list, by simp [tyOf]⟩, fun i e => (nomatch e)⟩
    obtain ⟨S', b1, _⟩ := blamed_loc (P := Pgm) (i := 18) (j := 15) rfl rfl (k := k + 4) (n := 2) (S := S1 ++ [.lst [.int 2]]) (l := S1.length) (xs := [.int 2]) (by simp) rfl (by decide)
    refine ⟨.val (.loc S1.length), .val (.lst [.str "points", .loc S1.length]), S', ?_⟩
    simp [b2, getV, h1, h9, Bop.ev, powD, hp, e, ixD, seqOf, w1, c1, m1, at0, at1, Cop.ev, eqD, rd, eqv, plain, pd, PyData.eqv, truth, b1]
  · have c1 := copy_else (P := Pgm) (i := 17) rfl (k := k + 7) (S := S1) w3 w4
    have m1 := met_wrong (k + 3) b w5
    have b1 := blamed_plain (P := Pgm) (i := 18) (j := 15) rfl rfl (k := k + 2) (n := 5) (S := S1) (v := w) (sm_fine 4 w w2 S1) w3 w4
    refine ⟨.val w, .val (.lst [.str "points", w]), S1, ?_⟩
    simp [b2, getV, h1, h9, Bop.ev, powD, hp, e, ixD, seqOf, w1, c1, m1, at0, at1, Cop.ev, eqD, rd, eqv, plain, pd, PyData.eqv, truth, b1]
end Mini.K28

/-! k28, the pure part, 9: the law's turns. -/
namespace Mini.K28
open PySem (Str PyData)
def b1 : List Mini.S := [.par [9, 10] [.val (.call 24 [(.var 5)]), .val (.call 19 [(.k (.str "all")), (.var 5), (.var 3)])], .iff (.or [(.not (.call 15 [(.var 10), (.new .frz (.disp [(.k (.str "told")), (.var 9)]))])), (.cmp .ne (.bi .len [(.var 9)]) (.call 25 [(.var 5)])), (.cmp .ne (.new .frz (.lc [11] (.var 11) (.name 11) (.seq (.var 9)) [(.not (.call 20 [(.var 11)]))] [])) (.new .frz (.disp [])))]) [.ret (.k (.bl false))] [], .ex (.mth .append (.ix (.var 10) (.k (.int 1))) [(.k (.str "more"))]), .setC (.ix (.var 10) (.k (.int 1))) (.k (.int 0)) (.k .non), .iff (.not (.call 15 [(.call 19 [(.k (.str "all")), (.var 5), (.not (.var 3))]), (.new .frz (.disp [(.k (.str "told")), (.var 9)]))])) [.ret (.k (.bl false))] []]
theorem all_good' (p : Fin 7) : fine 2 (.lst (allP p.1)) = true ∧ (∀ d ∈ allP p.1, okP d = true) ∧ 0 < (allP p.1).length := by
  have := all_good p
  simp only [Bool.and_eq_true, List.all_eq_true, decide_eq_true_eq] at this
  exact ⟨this.1.1, this.1.2, this.2⟩
theorem part1_ok (k : Nat) (p : Fin 7) {lb c : Nat} {b : Bool} {v0 v1 s4 s6 s7 s8 s9 s10 s11 : Slot} {S : Store} (hb : Bx S lb c) :
    ∃ s9' s10' S', exSs (cxk Pgm (k + 8)) b1 [v0, v1, .val (.loc lb), .val (.bl b), s4, .val (.int (p.1 : Nat)), s6, s7, s8, s9, s10, s11] S = .ok (.nx [v0, v1, .val (.loc lb), .val (.bl b), s4, .val (.int (p.1 : Nat)), s6, s7, s8, s9', s10', s11]) S' ∧ Bx S' lb c := by
  obtain ⟨g1, g2, g3⟩ := all_good' p
  have a1 := all_run (k + 7) S p
  have m1 := met_all (k + 3) p b S
  have hlen : (allP p.1).length ≤ 100000 := by obtain ⟨m, _, h, _⟩ := fine_lst g1; exact h
  have s1 := same15 4 (k + 4) _ _ (sm_told (S := S ++ [.lst (allP p.1)]) (l := S.length) (n := 1) (z := "told") (xs := allP p.1) (by simp) g1)
  have n1 := number_run (k + 7) (S ++ [.lst (allP p.1)]) p
  have ll : (allP p.1).length < line := Nat.lt_of_le_of_lt hlen (by decide)
  have c1 : evF (cxk Pgm (k + 8)) (.lc [11] (.var 11) (.name 11) (.seq (.var 9)) [(.not (.call 20 [(.var 11)]))] []) [v0, v1, .val (.loc lb), .val (.bl b), s4, .val (.int (p.1 : Nat)), s6, s7, s8, .val (.lst (allP p.1)), .val (.lst [.str "told", .loc S.length]), s11] (S ++ [.lst (allP p.1)]) = .ok (.l []) (S ++ [.lst (allP p.1)]) := by
    refine lc_none (xs := allP p.1) (by simp [getV, frzOf]) fun x hx => ?_
    have q := g2 x hx
    unfold okP at q
    simp only [Bool.and_eq_true] at q
    have j := judge_ok (k + 6) (S := S ++ [.lst (allP p.1)]) (v := x) q.1.1 (fun xs e y hy => by
      have := q.2
      rw [e] at this
      simp only [plain, List.all_eq_true] at this
      exact this y hy)
    simp [turnE, wipe, getV, j, q.1.2, truth]
  have h2 : 2 ≤ line := by decide
  have e5 : lstOf (.loc S.length) (S ++ [Cell.lst (allP p.1)]) = some (allP p.1) := by simp [lstOf]
  have e6 : mthD .append (.loc S.length) [.str "more"] (S ++ [Cell.lst (allP p.1)]) = .ok .non (S ++ [.lst (allP p.1 ++ [.str "more"])]) := by
    unfold mthD
    simp [mtOn, ll]
  have e7 : setCell (.lst (allP p.1 ++ [.str "more"])) (.int 0) .non = some (.lst ((allP p.1 ++ [D.str "more"]).set 0 D.non)) := by
    unfold setCell
    have : ixN (allP p.1 ++ [D.str "more"]).length 0 = some 0 := by
      unfold ixN
      simp
    simp only [this, Option.map_some]
  generalize hT : (allP p.1 ++ [D.str "more"]).set 0 D.non = T at *
  have m2 := fun b => met_all (k + 3) p b (S ++ [.lst T])
  have s2 := same15 4 (k + 4) _ _ (sm_told (S := S ++ [.lst T] ++ [.lst (allP p.1)]) (l := S.length + 1) (n := 1) (z := "told") (xs := allP p.1) (by rw [List.getElem?_append_right (by simp)]; simp) g1)
  have e8 : (S ++ [Cell.lst (allP p.1 ++ [D.str "more"])])[S.length]? = some (.lst (allP p.1 ++ [D.str "more"])) := by simp
  have e9 : (S ++ [Cell.lst (allP p.1 ++ [D.str "more"])]).set S.length (.lst T) = S ++ [.lst T] := by simp
  simp only [List.append_assoc, List.singleton_append, List.cons_append, List.nil_append, List.length_append, List.length_cons, List.length_nil, Nat.zero_add] at m2 s2
  refine ⟨.val (.lst (allP p.1)), .val (.lst [.str "told", .loc S.length]), S ++ [.lst T, .lst (allP p.1)], ?_, hb.app⟩
  cases b <;> simp [b1, getV, a1, m1, h2, s1, truth, Bi.ev, seqOf, n1, Cop.ev, eqD, rd, eqv, plain, pd, PyData.eqv, PyData.eqvAll, c1, ixD, at1, e5, e6, e7, e8, e9, m2, s2]
end Mini.K28

/-! k28, the pure part, 10: the law. -/
namespace Mini.K28
open PySem (Str PyData)
def oBody : List Mini.S := [.asg (.name 2) (.call 12 [(.call 11 [(.var 0), (.var 1)])]), .asg (.name 3) (.cmp .eq (.call 13 [(.var 2), (.k (.int 2))]) (.k (.int 0))), .for (.name 4) (.range1 (.k (.int 6))) tBody, .asg (.name 5) (.call 13 [(.var 2), (.k (.int 7))])] ++ b1 ++ b2
theorem exSs_app (cx : Cx) : ∀ (a b : List Mini.S) (ρ : Env) (S : Store), exSs cx (a ++ b) ρ S = (match exSs cx a ρ S with
    | .ok (.nx ρ') S' => exSs cx b ρ' S'
    | r => r)
  | [], b, ρ, S => by simp
  | s :: a, b, ρ, S => by
    rw [List.cons_append, exSs_c, exSs_c, bnd_def, bnd_def]
    cases exS cx s ρ S with
    | ok f S' => cases f <;> simp [exSs_app cx a b]
    | err _ _ _ => rfl
    | bad => rfl
theorem outer_ok (k : Nat) (ns : List Int) (j : Nat) (hj : j ≤ 63) {s1 s2 s3 s4 s5 s6 s7 s8 s9 s10 s11 : Slot} (S : Store) :
    ∃ t1 t2 t3 t4 t5 t6 t7 t8 t9 t10 t11 S', bodyF (cxk Pgm (k + 8)) (.name 1) oBody (.int (j : Nat)) [.val (.scr (ns.map .int)), s1, s2, s3, s4, s5, s6, s7, s8, s9, s10, s11] S = .ok (.nx [.val (.scr (ns.map .int)), t1, t2, t3, t4, t5, t6, t7, t8, t9, t10, t11]) S' := by
  obtain ⟨g, hg⟩ := cell_ok (P := Pgm) (i := 11) (c := 6547) (k := k + 7) (S := S) rfl (by decide) ns j hj
  obtain ⟨S1, hb, bx, _⟩ := box_ok (P := Pgm) (i := 12) rfl (k + 7) g S
  obtain ⟨d, S2, e2, _, _, bx2, _⟩ := take13 (k + 7) (m := 2) bx (by decide) (by decide) (by decide)
  obtain ⟨b', s4', s8', S3, e3, bx3⟩ := turns_ok k (lb := S.length) (v0 := .val (.scr (ns.map .int))) (v1 := .val (.int (j : Nat))) [0, 1, 2, 3, 4, 5] 1 (d == 0) s4 s5 s6 s7 s8 s9 s10 s11 S2 bx2 (by decide)
  obtain ⟨q, S4, e4, q0, q1, bx4, _⟩ := take13 (k + 7) (m := 7) bx3 (by decide) (by decide) (by decide)
  obtain ⟨p, hp, rfl⟩ : ∃ p : Nat, p < 7 ∧ q = (p : Nat) := ⟨q.toNat, by omega, by omega⟩
  obtain ⟨s9', s10', S5, e5, bx5⟩ := part1_ok k ⟨p, hp⟩ (b := b') (v0 := .val (.scr (ns.map .int))) (v1 := .val (.int (j : Nat))) (s4 := s4') (s6 := s6) (s7 := s7) (s8 := s8') (s9 := s9) (s10 := s10) (s11 := s11) bx4
  dsimp only at e5
  obtain ⟨s6', s7', S6, e6⟩ := part2_ok k (b := b') (v0 := .val (.scr (ns.map .int))) (v1 := .val (.int (j : Nat))) (s4 := s4') (s5 := .val (.int (p : Nat))) (s6 := s6) (s7 := s7) (s8 := s8') (s9 := s9') (s10 := s10') (s11 := s11) bx5 (by decide)
  refine ⟨.val (.int (j : Nat)), .val (.loc S.length), .val (.bl b'), s4', .val (.int (p : Nat)), s6', s7', s8', s9', s10', s11, S6, ?_⟩
  have hf : exS (cxk Pgm (k + 8)) (.for (.name 4) (.range1 (.k (.int 6))) tBody) [.val (.scr (ns.map .int)), .val (.int (j : Nat)), .val (.loc S.length), .val (.bl (d == 0)), s4, s5, s6, s7, s8, s9, s10, s11] S2 = .ok (.nx [.val (.scr (ns.map .int)), .val (.int (j : Nat)), .val (.loc S.length), .val (.bl b'), s4', s5, s6, s7, s8', s9, s10, s11]) S3 := by
    rw [exS_forB]
    have : evI (cxk Pgm (k + 8)) (.range1 (.k (.int 6))) [.val (.scr (ns.map .int)), .val (.int (j : Nat)), .val (.loc S.length), .val (.bl (d == 0)), s4, s5, s6, s7, s8, s9, s10, s11] S2 = .ok ([0, 1, 2, 3, 4, 5].map .int) S2 := by
      have : rangeOk 6 = true := by decide
      simp [asInt, this, rangeL]
      rfl
    rw [bnd_def, this]
    exact e3
  unfold oBody
  simp only [bodyF, exSs_app, asgO_name, bnd_def]
  simp [getV, hg, hb, e2, Cop.ev, eqD, rd, eqv, plain, pd, PyData.eqv, hf, e4, e5, e6]
theorem outer_loop (k : Nat) (ns : List Int) : ∀ (js : List Nat) (s1 s2 s3 s4 s5 s6 s7 s8 s9 s10 s11 : Slot) (S : Store), (∀ j ∈ js, j ≤ 63) →
    ∃ ρ S', forM (bodyF (cxk Pgm (k + 8)) (.name 1) oBody) (js.map fun (j : Nat) => D.int j) [.val (.scr (ns.map .int)), s1, s2, s3, s4, s5, s6, s7, s8, s9, s10, s11] S = .ok (.nx ρ) S' := by
  intro js
  induction js with
  | nil => intro s1 s2 s3 s4 s5 s6 s7 s8 s9 s10 s11 S _; exact ⟨_, _, for_end⟩
  | cons j js ih =>
    intro s1 s2 s3 s4 s5 s6 s7 s8 s9 s10 s11 S h
    obtain ⟨t1, t2, t3, t4, t5, t6, t7, t8, t9, t10, t11, S', e⟩ := outer_ok k ns j (h j (by simp)) (s1 := s1) (s2 := s2) (s3 := s3) (s4 := s4) (s5 := s5) (s6 := s6) (s7 := s7) (s8 := s8) (s9 := s9) (s10 := s10) (s11 := s11) S
    obtain ⟨ρ, S'', e2⟩ := ih t1 t2 t3 t4 t5 t6 t7 t8 t9 t10 t11 S' fun x hx => h x (List.mem_cons_of_mem _ hx)
    exact ⟨ρ, S'', by rw [List.map_cons, for_step e]; exact e2⟩
theorem law_run (ns : List Int) (hn : ns.length ≤ 63) : ∃ S', run Pgm 30 27 [scrD ns] [] = .ok (.bl true) S' := by
  obtain ⟨m, hm, hm2⟩ : ∃ m : Nat, m ≤ 6 ∧ (if (if (ns.length : Int) < 6 then (ns.length : Int) else 6) > 3 then (if (ns.length : Int) < 6 then (ns.length : Int) else 6) else 3) = (m : Nat) := by
    by_cases h1 : (ns.length : Int) < 6
    · by_cases h2 : (ns.length : Int) > 3
      · exact ⟨ns.length, by omega, by rw [if_pos h1, if_pos h2]⟩
      · exact ⟨3, by omega, by rw [if_pos h1, if_neg h2]; rfl⟩
    · exact ⟨6, by omega, by rw [if_neg h1]; rfl⟩
  obtain ⟨ρ, S', e⟩ := outer_loop 21 ns (List.range m) .no .no .no .no .no .no .no .no .no .no .no [] (fun j hj => by have := List.mem_range.mp hj; omega)
  refine ⟨S', ?_⟩
  unfold scrD
  rw [r_law 29]
  have hf : exS (cxk Pgm 29) (.for (.name 1) (.range1 (.bi .max2 [(.k (.int 3)), (.bi .min2 [(.k (.int 6)), (.bi .len [(.var 0)])])])) oBody) [.val (.scr (ns.map .int)), .no, .no, .no, .no, .no, .no, .no, .no, .no, .no, .no] [] = .ok (.nx ρ) S' := by
    rw [exS_forB]
    have : evI (cxk Pgm 29) (.range1 (.bi .max2 [(.k (.int 3)), (.bi .min2 [(.k (.int 6)), (.bi .len [(.var 0)])])])) [.val (.scr (ns.map .int)), .no, .no, .no, .no, .no, .no, .no, .no, .no, .no, .no] [] = .ok ((List.range m).map fun (j : Nat) => D.int j) [] := by
      have hr : rangeOk (m : Int) = true := rangeOk_nat (Nat.le_trans hm (by decide))
      simp [getV, Bi.ev, seqOf, hm2, asInt, hr, rangeL]
    rw [bnd_def, this]
    exact e
  have hb : b_law = [.for (.name 1) (.range1 (.bi .max2 [(.k (.int 3)), (.bi .min2 [(.k (.int 6)), (.bi .len [(.var 0)])])])) oBody, .ret (.k (.bl true))] := rfl
  rw [hb]
  simp [hf]
end Mini.K28

section
set_option maxHeartbeats 4000000
namespace Mini.K28.Chk
open PySem PySem.Spec PyProof.Rows L2
def top (i : Nat) : Stmt := PySem.Challenge.pw_sixturns_k28_partitions.main.body.getD i (.Pass ⟨0, 0, 0, 0⟩)
def gls : List Str := ["abs", "bool", "dict", "enumerate", "int", "isinstance", "len", "list", "max", "min", "range", "str", "sum", "tuple"]
def ims : List (Str × String) := []
def exs : List EE := [⟨"InvalidPartition", 1, "given"⟩, ⟨"InvalidPoints", 2, "given"⟩]
def hds : List (Str × Nat) := [("TurnError", 0), ("InvalidPartition", 1), ("InvalidPoints", 2)]
def fns : List FE := [⟨"is_integer", 0, 1, []⟩, ⟨"is_count", 1, 1, []⟩, ⟨"is_between", 2, 3, []⟩, ⟨"is_partition", 3, 1, [(0, ["value"], [0])]⟩, ⟨"check_partition", 4, 1, []⟩, ⟨"check_points", 5, 1, []⟩, ⟨"block_count", 6, 1, []⟩, ⟨"blocks_in", 7, 1, []⟩, ⟨"partitions_in", 8, 1, []⟩, ⟨"blocks", 9, 1, [(0, ["partition"], [0])]⟩, ⟨"partitions", 10, 1, [(0, ["points"], [0])]⟩, ⟨"_law_cell", 11, 2, []⟩, ⟨"_law_box", 12, 1, []⟩, ⟨"_law_take", 13, 2, []⟩, ⟨"_law_mixed", 14, 2, []⟩, ⟨"_law_same", 15, 2, []⟩, ⟨"_law_whole", 16, 1, []⟩, ⟨"_law_copy", 17, 1, []⟩, ⟨"_law_blamed", 18, 2, []⟩, ⟨"_law_met", 19, 3, []⟩, ⟨"_law_is_partition", 20, 1, []⟩, ⟨"_law_drawn", 21, 2, []⟩, ⟨"_law_near", 22, 2, []⟩, ⟨"_law_gathered", 23, 1, []⟩, ⟨"_law_all", 24, 1, []⟩, ⟨"_law_number", 25, 1, []⟩, ⟨"_law_value_right", 26, 2, []⟩, ⟨"law", 27, 1, []⟩]
def t_is_integer : Stmt := top 5
def B_is_integer : Tb := ⟨N_is_integer, defScope t_is_integer, fun _ => true, gls, fns, ims, [], exs, hds⟩
theorem c_is_integer : (ckSs b_is_integer B_is_integer (defBody t_is_integer)).isSome = true := by decide +kernel
def t_is_count : Stmt := top 6
def B_is_count : Tb := ⟨N_is_count, defScope t_is_count, fun _ => true, gls, fns, ims, [], exs, hds⟩
theorem c_is_count : (ckSs b_is_count B_is_count (defBody t_is_count)).isSome = true := by decide +kernel
def t_is_between : Stmt := top 7
def B_is_between : Tb := ⟨N_is_between, defScope t_is_between, fun _ => true, gls, fns, ims, [], exs, hds⟩
theorem c_is_between : (ckSs b_is_between B_is_between (defBody t_is_between)).isSome = true := by decide +kernel
def t_is_partition : Stmt := top 9
def B_is_partition : Tb := ⟨N_is_partition, defScope t_is_partition, fun _ => true, gls, fns, ims, [], exs, hds⟩
theorem c_is_partition : (ckSs b_is_partition B_is_partition (defBody t_is_partition)).isSome = true := by decide +kernel
def t_check_partition : Stmt := top 10
def B_check_partition : Tb := ⟨N_check_partition, defScope t_check_partition, fun _ => true, gls, fns, ims, [], exs, hds⟩
theorem c_check_partition : (ckSs b_check_partition B_check_partition (defBody t_check_partition)).isSome = true := by decide +kernel
def t_check_points : Stmt := top 11
def B_check_points : Tb := ⟨N_check_points, defScope t_check_points, fun _ => true, gls, fns, ims, [], exs, hds⟩
theorem c_check_points : (ckSs b_check_points B_check_points (defBody t_check_points)).isSome = true := by decide +kernel
def t_block_count : Stmt := top 12
def B_block_count : Tb := ⟨N_block_count, defScope t_block_count, fun _ => true, gls, fns, ims, [], exs, hds⟩
theorem c_block_count : (ckSs b_block_count B_block_count (defBody t_block_count)).isSome = true := by decide +kernel
def t_blocks_in : Stmt := top 13
def B_blocks_in : Tb := ⟨N_blocks_in, defScope t_blocks_in, fun _ => true, gls, fns, ims, [], exs, hds⟩
theorem c_blocks_in : (ckSs b_blocks_in B_blocks_in (defBody t_blocks_in)).isSome = true := by decide +kernel
def t_partitions_in : Stmt := top 14
def B_partitions_in : Tb := ⟨N_partitions_in, defScope t_partitions_in, fun _ => true, gls, fns, ims, [], exs, hds⟩
theorem c_partitions_in : (ckSs b_partitions_in B_partitions_in (defBody t_partitions_in)).isSome = true := by decide +kernel
def t_blocks : Stmt := top 15
def B_blocks : Tb := ⟨N_blocks, defScope t_blocks, fun _ => true, gls, fns, ims, [], exs, hds⟩
theorem c_blocks : (ckSs b_blocks B_blocks (defBody t_blocks)).isSome = true := by decide +kernel
def t_partitions : Stmt := top 16
def B_partitions : Tb := ⟨N_partitions, defScope t_partitions, fun _ => true, gls, fns, ims, [], exs, hds⟩
theorem c_partitions : (ckSs b_partitions B_partitions (defBody t_partitions)).isSome = true := by decide +kernel
def t__law_cell : Stmt := top 18
def B__law_cell : Tb := ⟨N__law_cell, defScope t__law_cell, fun _ => true, gls, fns, ims, [], exs, hds⟩
theorem c__law_cell : (ckSs b__law_cell B__law_cell (defBody t__law_cell)).isSome = true := by decide +kernel
def t__law_box : Stmt := top 19
def B__law_box : Tb := ⟨N__law_box, defScope t__law_box, fun _ => true, gls, fns, ims, [], exs, hds⟩
theorem c__law_box : (ckSs b__law_box B__law_box (defBody t__law_box)).isSome = true := by decide +kernel
def t__law_take : Stmt := top 20
def B__law_take : Tb := ⟨N__law_take, defScope t__law_take, fun _ => true, gls, fns, ims, [], exs, hds⟩
theorem c__law_take : (ckSs b__law_take B__law_take (defBody t__law_take)).isSome = true := by decide +kernel
def t__law_mixed : Stmt := top 21
def B__law_mixed : Tb := ⟨N__law_mixed, defScope t__law_mixed, fun _ => true, gls, fns, ims, [], exs, hds⟩
theorem c__law_mixed : (ckSs b__law_mixed B__law_mixed (defBody t__law_mixed)).isSome = true := by decide +kernel
def t__law_same : Stmt := top 22
def B__law_same : Tb := ⟨N__law_same, defScope t__law_same, fun _ => true, gls, fns, ims, [], exs, hds⟩
theorem c__law_same : (ckSs b__law_same B__law_same (defBody t__law_same)).isSome = true := by decide +kernel
def t__law_whole : Stmt := top 23
def B__law_whole : Tb := ⟨N__law_whole, defScope t__law_whole, fun _ => true, gls, fns, ims, [], exs, hds⟩
theorem c__law_whole : (ckSs b__law_whole B__law_whole (defBody t__law_whole)).isSome = true := by decide +kernel
def t__law_copy : Stmt := top 24
def B__law_copy : Tb := ⟨N__law_copy, defScope t__law_copy, fun _ => true, gls, fns, ims, [], exs, hds⟩
theorem c__law_copy : (ckSs b__law_copy B__law_copy (defBody t__law_copy)).isSome = true := by decide +kernel
def t__law_blamed : Stmt := top 25
def B__law_blamed : Tb := ⟨N__law_blamed, defScope t__law_blamed, fun _ => true, gls, fns, ims, [], exs, hds⟩
theorem c__law_blamed : (ckSs b__law_blamed B__law_blamed (defBody t__law_blamed)).isSome = true := by decide +kernel
def t__law_met : Stmt := top 26
def B__law_met : Tb := ⟨N__law_met, defScope t__law_met, fun _ => true, gls, fns, ims, [], exs, hds⟩
theorem c__law_met : (ckSs b__law_met B__law_met (defBody t__law_met)).isSome = true := by decide +kernel
def t__law_is_partition : Stmt := top 27
def B__law_is_partition : Tb := ⟨N__law_is_partition, defScope t__law_is_partition, fun _ => true, gls, fns, ims, [], exs, hds⟩
theorem c__law_is_partition : (ckSs b__law_is_partition B__law_is_partition (defBody t__law_is_partition)).isSome = true := by decide +kernel
def t__law_drawn : Stmt := top 28
def B__law_drawn : Tb := ⟨N__law_drawn, defScope t__law_drawn, fun _ => true, gls, fns, ims, [], exs, hds⟩
theorem c__law_drawn : (ckSs b__law_drawn B__law_drawn (defBody t__law_drawn)).isSome = true := by decide +kernel
def t__law_near : Stmt := top 29
def B__law_near : Tb := ⟨N__law_near, defScope t__law_near, fun _ => true, gls, fns, ims, [], exs, hds⟩
theorem c__law_near : (ckSs b__law_near B__law_near (defBody t__law_near)).isSome = true := by decide +kernel
def t__law_gathered : Stmt := top 30
def B__law_gathered : Tb := ⟨N__law_gathered, defScope t__law_gathered, fun _ => true, gls, fns, ims, [], exs, hds⟩
theorem c__law_gathered : (ckSs b__law_gathered B__law_gathered (defBody t__law_gathered)).isSome = true := by decide +kernel
def t__law_all : Stmt := top 31
def B__law_all : Tb := ⟨N__law_all, defScope t__law_all, fun _ => true, gls, fns, ims, [], exs, hds⟩
theorem c__law_all : (ckSs b__law_all B__law_all (defBody t__law_all)).isSome = true := by decide +kernel
def t__law_number : Stmt := top 32
def B__law_number : Tb := ⟨N__law_number, defScope t__law_number, fun _ => true, gls, fns, ims, [], exs, hds⟩
theorem c__law_number : (ckSs b__law_number B__law_number (defBody t__law_number)).isSome = true := by decide +kernel
def t__law_value_right : Stmt := top 33
def B__law_value_right : Tb := ⟨N__law_value_right, defScope t__law_value_right, fun _ => true, gls, fns, ims, [], exs, hds⟩
theorem c__law_value_right : (ckSs b__law_value_right B__law_value_right (defBody t__law_value_right)).isSome = true := by decide +kernel
def t_law : Stmt := top 34
def B_law : Tb := ⟨N_law, defScope t_law, fun _ => true, gls, fns, ims, [], exs, hds⟩
theorem c_law : (ckSs b_law B_law (defBody t_law)).isSome = true := by decide +kernel
/- head -/
def clsBody (s : Stmt) : List Stmt := match s with
  | .ClassDef _ _ _ b _ _ _ _ _ _ _ => b
  | _ => []
def i_InvalidPartition : Stmt := (clsBody (top 2)).getD 0 (.Pass ⟨0, 0, 0, 0⟩)
def i_InvalidPoints : Stmt := (clsBody (top 3)).getD 0 (.Pass ⟨0, 0, 0, 0⟩)
def dfs : List He.DefD := [⟨("is_integer", none), "is_integer", "is_integer", defArgs t_is_integer, defBody t_is_integer, defScope t_is_integer, [], []⟩, ⟨("is_count", none), "is_count", "is_count", defArgs t_is_count, defBody t_is_count, defScope t_is_count, [], []⟩, ⟨("is_between", none), "is_between", "is_between", defArgs t_is_between, defBody t_is_between, defScope t_is_between, [], []⟩, ⟨("is_partition", none), "is_partition", "is_partition", defArgs t_is_partition, defBody t_is_partition, defScope t_is_partition, [], []⟩, ⟨("check_partition", none), "check_partition", "check_partition", defArgs t_check_partition, defBody t_check_partition, defScope t_check_partition, [], []⟩, ⟨("check_points", none), "check_points", "check_points", defArgs t_check_points, defBody t_check_points, defScope t_check_points, [], []⟩, ⟨("block_count", none), "block_count", "block_count", defArgs t_block_count, defBody t_block_count, defScope t_block_count, [], []⟩, ⟨("blocks_in", none), "blocks_in", "blocks_in", defArgs t_blocks_in, defBody t_blocks_in, defScope t_blocks_in, [], []⟩, ⟨("partitions_in", none), "partitions_in", "partitions_in", defArgs t_partitions_in, defBody t_partitions_in, defScope t_partitions_in, [], []⟩, ⟨("blocks", none), "blocks", "blocks", defArgs t_blocks, defBody t_blocks, defScope t_blocks, [], []⟩, ⟨("partitions", none), "partitions", "partitions", defArgs t_partitions, defBody t_partitions, defScope t_partitions, [], []⟩, ⟨("_law_cell", none), "_law_cell", "_law_cell", defArgs t__law_cell, defBody t__law_cell, defScope t__law_cell, [], []⟩, ⟨("_law_box", none), "_law_box", "_law_box", defArgs t__law_box, defBody t__law_box, defScope t__law_box, [], []⟩, ⟨("_law_take", none), "_law_take", "_law_take", defArgs t__law_take, defBody t__law_take, defScope t__law_take, [], []⟩, ⟨("_law_mixed", none), "_law_mixed", "_law_mixed", defArgs t__law_mixed, defBody t__law_mixed, defScope t__law_mixed, [], []⟩, ⟨("_law_same", none), "_law_same", "_law_same", defArgs t__law_same, defBody t__law_same, defScope t__law_same, [], []⟩, ⟨("_law_whole", none), "_law_whole", "_law_whole", defArgs t__law_whole, defBody t__law_whole, defScope t__law_whole, [], []⟩, ⟨("_law_copy", none), "_law_copy", "_law_copy", defArgs t__law_copy, defBody t__law_copy, defScope t__law_copy, [], []⟩, ⟨("_law_blamed", none), "_law_blamed", "_law_blamed", defArgs t__law_blamed, defBody t__law_blamed, defScope t__law_blamed, [], []⟩, ⟨("_law_met", none), "_law_met", "_law_met", defArgs t__law_met, defBody t__law_met, defScope t__law_met, [], []⟩, ⟨("_law_is_partition", none), "_law_is_partition", "_law_is_partition", defArgs t__law_is_partition, defBody t__law_is_partition, defScope t__law_is_partition, [], []⟩, ⟨("_law_drawn", none), "_law_drawn", "_law_drawn", defArgs t__law_drawn, defBody t__law_drawn, defScope t__law_drawn, [], []⟩, ⟨("_law_near", none), "_law_near", "_law_near", defArgs t__law_near, defBody t__law_near, defScope t__law_near, [], []⟩, ⟨("_law_gathered", none), "_law_gathered", "_law_gathered", defArgs t__law_gathered, defBody t__law_gathered, defScope t__law_gathered, [], []⟩, ⟨("_law_all", none), "_law_all", "_law_all", defArgs t__law_all, defBody t__law_all, defScope t__law_all, [], []⟩, ⟨("_law_number", none), "_law_number", "_law_number", defArgs t__law_number, defBody t__law_number, defScope t__law_number, [], []⟩, ⟨("_law_value_right", none), "_law_value_right", "_law_value_right", defArgs t__law_value_right, defBody t__law_value_right, defScope t__law_value_right, [], []⟩, ⟨("law", none), "law", "law", defArgs t_law, defBody t_law, defScope t_law, [], []⟩, ⟨("InvalidPartition", some "__init__"), "__init__", "InvalidPartition.__init__", defArgs i_InvalidPartition, defBody i_InvalidPartition, defScope i_InvalidPartition, [], []⟩, ⟨("InvalidPoints", some "__init__"), "__init__", "InvalidPoints.__init__", defArgs i_InvalidPoints, defBody i_InvalidPoints, defScope i_InvalidPoints, [], []⟩]
def glos : List Str := ["is_integer", "is_count", "is_between", "is_partition", "check_partition", "check_points", "block_count", "blocks_in", "partitions_in", "blocks", "partitions", "_law_cell", "_law_box", "_law_take", "_law_mixed", "_law_same", "_law_whole", "_law_copy", "_law_blamed", "_law_met", "_law_is_partition", "_law_drawn", "_law_near", "_law_gathered", "_law_all", "_law_number", "_law_value_right", "law", "TurnError", "InvalidPartition", "InvalidPoints"]
def fas : List He.Fa := glos.map .glo ++ gls.map .free
def ckK (K : Frag) : Bool := ckC cls exmL K && imsB ims K
theorem d_is_integer {K : Frag} {mg : Str → Option Value} {f : Addr} {fd : FuncData} (F : FunD K "is_integer" "is_integer" (defArgs t_is_integer) (defBody t_is_integer) (defScope t_is_integer) [] [] f fd) (hm : mg "is_integer" = some (.ref f)) : DefIn K mg Pgm B_is_integer ⟨"is_integer", 0, 1, []⟩ :=
  defIn_of (e := ⟨"is_integer", 0, 1, []⟩) (B := B_is_integer) (ps := ["value"]) F hm ⟨rfl, rfl, rfl, by decide +kernel, rfl, by decide +kernel, by decide +kernel⟩ rfl rfl c_is_integer (F.bindsN fun _ _ _ _ _ _ us hl => match us, hl with | [_], _ => rfl) (fun _ h => nomatch h)
theorem d_is_count {K : Frag} {mg : Str → Option Value} {f : Addr} {fd : FuncData} (F : FunD K "is_count" "is_count" (defArgs t_is_count) (defBody t_is_count) (defScope t_is_count) [] [] f fd) (hm : mg "is_count" = some (.ref f)) : DefIn K mg Pgm B_is_count ⟨"is_count", 1, 1, []⟩ :=
  defIn_of (e := ⟨"is_count", 1, 1, []⟩) (B := B_is_count) (ps := ["value"]) F hm ⟨rfl, rfl, rfl, by decide +kernel, rfl, by decide +kernel, by decide +kernel⟩ rfl rfl c_is_count (F.bindsN fun _ _ _ _ _ _ us hl => match us, hl with | [_], _ => rfl) (fun _ h => nomatch h)
theorem d_is_between {K : Frag} {mg : Str → Option Value} {f : Addr} {fd : FuncData} (F : FunD K "is_between" "is_between" (defArgs t_is_between) (defBody t_is_between) (defScope t_is_between) [] [] f fd) (hm : mg "is_between" = some (.ref f)) : DefIn K mg Pgm B_is_between ⟨"is_between", 2, 3, []⟩ :=
  defIn_of (e := ⟨"is_between", 2, 3, []⟩) (B := B_is_between) (ps := ["value", "least", "greatest"]) F hm ⟨rfl, rfl, rfl, by decide +kernel, rfl, by decide +kernel, by decide +kernel⟩ rfl rfl c_is_between (F.bindsN fun _ _ _ _ _ _ us hl => match us, hl with | [_, _, _], _ => rfl) (fun _ h => nomatch h)
theorem d_is_partition {K : Frag} {mg : Str → Option Value} {f : Addr} {fd : FuncData} (F : FunD K "is_partition" "is_partition" (defArgs t_is_partition) (defBody t_is_partition) (defScope t_is_partition) [] [] f fd) (hm : mg "is_partition" = some (.ref f)) : DefIn K mg Pgm B_is_partition ⟨"is_partition", 3, 1, [(0, ["value"], [0])]⟩ :=
  defIn_of (e := ⟨"is_partition", 3, 1, [(0, ["value"], [0])]⟩) (B := B_is_partition) (ps := ["value"]) F hm ⟨rfl, rfl, rfl, by decide +kernel, rfl, by decide +kernel, by decide +kernel⟩ rfl rfl c_is_partition (F.bindsN fun _ _ _ _ _ _ us hl => match us, hl with | [_], _ => rfl) (List.forall_mem_cons.mpr ⟨kwN F fun _ _ _ _ _ _ us ws zs l1 l2 e => match us, ws, l1, l2, e with | [], [_], _, _, e => by have e := Option.some.inj e; subst e; rfl, fun _ h => nomatch h⟩)
theorem d_check_partition {K : Frag} {mg : Str → Option Value} {f : Addr} {fd : FuncData} (F : FunD K "check_partition" "check_partition" (defArgs t_check_partition) (defBody t_check_partition) (defScope t_check_partition) [] [] f fd) (hm : mg "check_partition" = some (.ref f)) : DefIn K mg Pgm B_check_partition ⟨"check_partition", 4, 1, []⟩ :=
  defIn_of (e := ⟨"check_partition", 4, 1, []⟩) (B := B_check_partition) (ps := ["partition"]) F hm ⟨rfl, rfl, rfl, by decide +kernel, rfl, by decide +kernel, by decide +kernel⟩ rfl rfl c_check_partition (F.bindsN fun _ _ _ _ _ _ us hl => match us, hl with | [_], _ => rfl) (fun _ h => nomatch h)
theorem d_check_points {K : Frag} {mg : Str → Option Value} {f : Addr} {fd : FuncData} (F : FunD K "check_points" "check_points" (defArgs t_check_points) (defBody t_check_points) (defScope t_check_points) [] [] f fd) (hm : mg "check_points" = some (.ref f)) : DefIn K mg Pgm B_check_points ⟨"check_points", 5, 1, []⟩ :=
  defIn_of (e := ⟨"check_points", 5, 1, []⟩) (B := B_check_points) (ps := ["points"]) F hm ⟨rfl, rfl, rfl, by decide +kernel, rfl, by decide +kernel, by decide +kernel⟩ rfl rfl c_check_points (F.bindsN fun _ _ _ _ _ _ us hl => match us, hl with | [_], _ => rfl) (fun _ h => nomatch h)
theorem d_block_count {K : Frag} {mg : Str → Option Value} {f : Addr} {fd : FuncData} (F : FunD K "block_count" "block_count" (defArgs t_block_count) (defBody t_block_count) (defScope t_block_count) [] [] f fd) (hm : mg "block_count" = some (.ref f)) : DefIn K mg Pgm B_block_count ⟨"block_count", 6, 1, []⟩ :=
  defIn_of (e := ⟨"block_count", 6, 1, []⟩) (B := B_block_count) (ps := ["partition"]) F hm ⟨rfl, rfl, rfl, by decide +kernel, rfl, by decide +kernel, by decide +kernel⟩ rfl rfl c_block_count (F.bindsN fun _ _ _ _ _ _ us hl => match us, hl with | [_], _ => rfl) (fun _ h => nomatch h)
theorem d_blocks_in {K : Frag} {mg : Str → Option Value} {f : Addr} {fd : FuncData} (F : FunD K "blocks_in" "blocks_in" (defArgs t_blocks_in) (defBody t_blocks_in) (defScope t_blocks_in) [] [] f fd) (hm : mg "blocks_in" = some (.ref f)) : DefIn K mg Pgm B_blocks_in ⟨"blocks_in", 7, 1, []⟩ :=
  defIn_of (e := ⟨"blocks_in", 7, 1, []⟩) (B := B_blocks_in) (ps := ["partition"]) F hm ⟨rfl, rfl, rfl, by decide +kernel, rfl, by decide +kernel, by decide +kernel⟩ rfl rfl c_blocks_in (F.bindsN fun _ _ _ _ _ _ us hl => match us, hl with | [_], _ => rfl) (fun _ h => nomatch h)
theorem d_partitions_in {K : Frag} {mg : Str → Option Value} {f : Addr} {fd : FuncData} (F : FunD K "partitions_in" "partitions_in" (defArgs t_partitions_in) (defBody t_partitions_in) (defScope t_partitions_in) [] [] f fd) (hm : mg "partitions_in" = some (.ref f)) : DefIn K mg Pgm B_partitions_in ⟨"partitions_in", 8, 1, []⟩ :=
  defIn_of (e := ⟨"partitions_in", 8, 1, []⟩) (B := B_partitions_in) (ps := ["points"]) F hm ⟨rfl, rfl, rfl, by decide +kernel, rfl, by decide +kernel, by decide +kernel⟩ rfl rfl c_partitions_in (F.bindsN fun _ _ _ _ _ _ us hl => match us, hl with | [_], _ => rfl) (fun _ h => nomatch h)
theorem d_blocks {K : Frag} {mg : Str → Option Value} {f : Addr} {fd : FuncData} (F : FunD K "blocks" "blocks" (defArgs t_blocks) (defBody t_blocks) (defScope t_blocks) [] [] f fd) (hm : mg "blocks" = some (.ref f)) : DefIn K mg Pgm B_blocks ⟨"blocks", 9, 1, [(0, ["partition"], [0])]⟩ :=
  defIn_of (e := ⟨"blocks", 9, 1, [(0, ["partition"], [0])]⟩) (B := B_blocks) (ps := ["partition"]) F hm ⟨rfl, rfl, rfl, by decide +kernel, rfl, by decide +kernel, by decide +kernel⟩ rfl rfl c_blocks (F.bindsN fun _ _ _ _ _ _ us hl => match us, hl with | [_], _ => rfl) (List.forall_mem_cons.mpr ⟨kwN F fun _ _ _ _ _ _ us ws zs l1 l2 e => match us, ws, l1, l2, e with | [], [_], _, _, e => by have e := Option.some.inj e; subst e; rfl, fun _ h => nomatch h⟩)
theorem d_partitions {K : Frag} {mg : Str → Option Value} {f : Addr} {fd : FuncData} (F : FunD K "partitions" "partitions" (defArgs t_partitions) (defBody t_partitions) (defScope t_partitions) [] [] f fd) (hm : mg "partitions" = some (.ref f)) : DefIn K mg Pgm B_partitions ⟨"partitions", 10, 1, [(0, ["points"], [0])]⟩ :=
  defIn_of (e := ⟨"partitions", 10, 1, [(0, ["points"], [0])]⟩) (B := B_partitions) (ps := ["points"]) F hm ⟨rfl, rfl, rfl, by decide +kernel, rfl, by decide +kernel, by decide +kernel⟩ rfl rfl c_partitions (F.bindsN fun _ _ _ _ _ _ us hl => match us, hl with | [_], _ => rfl) (List.forall_mem_cons.mpr ⟨kwN F fun _ _ _ _ _ _ us ws zs l1 l2 e => match us, ws, l1, l2, e with | [], [_], _, _, e => by have e := Option.some.inj e; subst e; rfl, fun _ h => nomatch h⟩)
theorem d__law_cell {K : Frag} {mg : Str → Option Value} {f : Addr} {fd : FuncData} (F : FunD K "_law_cell" "_law_cell" (defArgs t__law_cell) (defBody t__law_cell) (defScope t__law_cell) [] [] f fd) (hm : mg "_law_cell" = some (.ref f)) : DefIn K mg Pgm B__law_cell ⟨"_law_cell", 11, 2, []⟩ :=
  defIn_of (e := ⟨"_law_cell", 11, 2, []⟩) (B := B__law_cell) (ps := ["script", "k"]) F hm ⟨rfl, rfl, rfl, by decide +kernel, rfl, by decide +kernel, by decide +kernel⟩ rfl rfl c__law_cell (F.bindsN fun _ _ _ _ _ _ us hl => match us, hl with | [_, _], _ => rfl) (fun _ h => nomatch h)
theorem d__law_box {K : Frag} {mg : Str → Option Value} {f : Addr} {fd : FuncData} (F : FunD K "_law_box" "_law_box" (defArgs t__law_box) (defBody t__law_box) (defScope t__law_box) [] [] f fd) (hm : mg "_law_box" = some (.ref f)) : DefIn K mg Pgm B__law_box ⟨"_law_box", 12, 1, []⟩ :=
  defIn_of (e := ⟨"_law_box", 12, 1, []⟩) (B := B__law_box) (ps := ["great"]) F hm ⟨rfl, rfl, rfl, by decide +kernel, rfl, by decide +kernel, by decide +kernel⟩ rfl rfl c__law_box (F.bindsN fun _ _ _ _ _ _ us hl => match us, hl with | [_], _ => rfl) (fun _ h => nomatch h)
theorem d__law_take {K : Frag} {mg : Str → Option Value} {f : Addr} {fd : FuncData} (F : FunD K "_law_take" "_law_take" (defArgs t__law_take) (defBody t__law_take) (defScope t__law_take) [] [] f fd) (hm : mg "_law_take" = some (.ref f)) : DefIn K mg Pgm B__law_take ⟨"_law_take", 13, 2, []⟩ :=
  defIn_of (e := ⟨"_law_take", 13, 2, []⟩) (B := B__law_take) (ps := ["box", "many"]) F hm ⟨rfl, rfl, rfl, by decide +kernel, rfl, by decide +kernel, by decide +kernel⟩ rfl rfl c__law_take (F.bindsN fun _ _ _ _ _ _ us hl => match us, hl with | [_, _], _ => rfl) (fun _ h => nomatch h)
theorem d__law_mixed {K : Frag} {mg : Str → Option Value} {f : Addr} {fd : FuncData} (F : FunD K "_law_mixed" "_law_mixed" (defArgs t__law_mixed) (defBody t__law_mixed) (defScope t__law_mixed) [] [] f fd) (hm : mg "_law_mixed" = some (.ref f)) : DefIn K mg Pgm B__law_mixed ⟨"_law_mixed", 14, 2, []⟩ :=
  defIn_of (e := ⟨"_law_mixed", 14, 2, []⟩) (B := B__law_mixed) (ps := ["box", "items"]) F hm ⟨rfl, rfl, rfl, by decide +kernel, rfl, by decide +kernel, by decide +kernel⟩ rfl rfl c__law_mixed (F.bindsN fun _ _ _ _ _ _ us hl => match us, hl with | [_, _], _ => rfl) (fun _ h => nomatch h)
theorem d__law_same {K : Frag} {mg : Str → Option Value} {f : Addr} {fd : FuncData} (F : FunD K "_law_same" "_law_same" (defArgs t__law_same) (defBody t__law_same) (defScope t__law_same) [] [] f fd) (hm : mg "_law_same" = some (.ref f)) : DefIn K mg Pgm B__law_same ⟨"_law_same", 15, 2, []⟩ :=
  defIn_of (e := ⟨"_law_same", 15, 2, []⟩) (B := B__law_same) (ps := ["told", "due"]) F hm ⟨rfl, rfl, rfl, by decide +kernel, rfl, by decide +kernel, by decide +kernel⟩ rfl rfl c__law_same (F.bindsN fun _ _ _ _ _ _ us hl => match us, hl with | [_, _], _ => rfl) (fun _ h => nomatch h)
theorem d__law_whole {K : Frag} {mg : Str → Option Value} {f : Addr} {fd : FuncData} (F : FunD K "_law_whole" "_law_whole" (defArgs t__law_whole) (defBody t__law_whole) (defScope t__law_whole) [] [] f fd) (hm : mg "_law_whole" = some (.ref f)) : DefIn K mg Pgm B__law_whole ⟨"_law_whole", 16, 1, []⟩ :=
  defIn_of (e := ⟨"_law_whole", 16, 1, []⟩) (B := B__law_whole) (ps := ["value"]) F hm ⟨rfl, rfl, rfl, by decide +kernel, rfl, by decide +kernel, by decide +kernel⟩ rfl rfl c__law_whole (F.bindsN fun _ _ _ _ _ _ us hl => match us, hl with | [_], _ => rfl) (fun _ h => nomatch h)
theorem d__law_copy {K : Frag} {mg : Str → Option Value} {f : Addr} {fd : FuncData} (F : FunD K "_law_copy" "_law_copy" (defArgs t__law_copy) (defBody t__law_copy) (defScope t__law_copy) [] [] f fd) (hm : mg "_law_copy" = some (.ref f)) : DefIn K mg Pgm B__law_copy ⟨"_law_copy", 17, 1, []⟩ :=
  defIn_of (e := ⟨"_law_copy", 17, 1, []⟩) (B := B__law_copy) (ps := ["value"]) F hm ⟨rfl, rfl, rfl, by decide +kernel, rfl, by decide +kernel, by decide +kernel⟩ rfl rfl c__law_copy (F.bindsN fun _ _ _ _ _ _ us hl => match us, hl with | [_], _ => rfl) (fun _ h => nomatch h)
theorem d__law_blamed {K : Frag} {mg : Str → Option Value} {f : Addr} {fd : FuncData} (F : FunD K "_law_blamed" "_law_blamed" (defArgs t__law_blamed) (defBody t__law_blamed) (defScope t__law_blamed) [] [] f fd) (hm : mg "_law_blamed" = some (.ref f)) : DefIn K mg Pgm B__law_blamed ⟨"_law_blamed", 18, 2, []⟩ :=
  defIn_of (e := ⟨"_law_blamed", 18, 2, []⟩) (B := B__law_blamed) (ps := ["given", "value"]) F hm ⟨rfl, rfl, rfl, by decide +kernel, rfl, by decide +kernel, by decide +kernel⟩ rfl rfl c__law_blamed (F.bindsN fun _ _ _ _ _ _ us hl => match us, hl with | [_, _], _ => rfl) (fun _ h => nomatch h)
theorem d__law_met {K : Frag} {mg : Str → Option Value} {f : Addr} {fd : FuncData} (F : FunD K "_law_met" "_law_met" (defArgs t__law_met) (defBody t__law_met) (defScope t__law_met) [] [] f fd) (hm : mg "_law_met" = some (.ref f)) : DefIn K mg Pgm B__law_met ⟨"_law_met", 19, 3, []⟩ :=
  defIn_of (e := ⟨"_law_met", 19, 3, []⟩) (B := B__law_met) (ps := ["door", "value", "named"]) F hm ⟨rfl, rfl, rfl, by decide +kernel, rfl, by decide +kernel, by decide +kernel⟩ rfl rfl c__law_met (F.bindsN fun _ _ _ _ _ _ us hl => match us, hl with | [_, _, _], _ => rfl) (fun _ h => nomatch h)
theorem d__law_is_partition {K : Frag} {mg : Str → Option Value} {f : Addr} {fd : FuncData} (F : FunD K "_law_is_partition" "_law_is_partition" (defArgs t__law_is_partition) (defBody t__law_is_partition) (defScope t__law_is_partition) [] [] f fd) (hm : mg "_law_is_partition" = some (.ref f)) : DefIn K mg Pgm B__law_is_partition ⟨"_law_is_partition", 20, 1, []⟩ :=
  defIn_of (e := ⟨"_law_is_partition", 20, 1, []⟩) (B := B__law_is_partition) (ps := ["value"]) F hm ⟨rfl, rfl, rfl, by decide +kernel, rfl, by decide +kernel, by decide +kernel⟩ rfl rfl c__law_is_partition (F.bindsN fun _ _ _ _ _ _ us hl => match us, hl with | [_], _ => rfl) (fun _ h => nomatch h)
theorem d__law_drawn {K : Frag} {mg : Str → Option Value} {f : Addr} {fd : FuncData} (F : FunD K "_law_drawn" "_law_drawn" (defArgs t__law_drawn) (defBody t__law_drawn) (defScope t__law_drawn) [] [] f fd) (hm : mg "_law_drawn" = some (.ref f)) : DefIn K mg Pgm B__law_drawn ⟨"_law_drawn", 21, 2, []⟩ :=
  defIn_of (e := ⟨"_law_drawn", 21, 2, []⟩) (B := B__law_drawn) (ps := ["box", "points"]) F hm ⟨rfl, rfl, rfl, by decide +kernel, rfl, by decide +kernel, by decide +kernel⟩ rfl rfl c__law_drawn (F.bindsN fun _ _ _ _ _ _ us hl => match us, hl with | [_, _], _ => rfl) (fun _ h => nomatch h)
theorem d__law_near {K : Frag} {mg : Str → Option Value} {f : Addr} {fd : FuncData} (F : FunD K "_law_near" "_law_near" (defArgs t__law_near) (defBody t__law_near) (defScope t__law_near) [] [] f fd) (hm : mg "_law_near" = some (.ref f)) : DefIn K mg Pgm B__law_near ⟨"_law_near", 22, 2, []⟩ :=
  defIn_of (e := ⟨"_law_near", 22, 2, []⟩) (B := B__law_near) (ps := ["box", "value"]) F hm ⟨rfl, rfl, rfl, by decide +kernel, rfl, by decide +kernel, by decide +kernel⟩ rfl rfl c__law_near (F.bindsN fun _ _ _ _ _ _ us hl => match us, hl with | [_, _], _ => rfl) (fun _ h => nomatch h)
theorem d__law_gathered {K : Frag} {mg : Str → Option Value} {f : Addr} {fd : FuncData} (F : FunD K "_law_gathered" "_law_gathered" (defArgs t__law_gathered) (defBody t__law_gathered) (defScope t__law_gathered) [] [] f fd) (hm : mg "_law_gathered" = some (.ref f)) : DefIn K mg Pgm B__law_gathered ⟨"_law_gathered", 23, 1, []⟩ :=
  defIn_of (e := ⟨"_law_gathered", 23, 1, []⟩) (B := B__law_gathered) (ps := ["partition"]) F hm ⟨rfl, rfl, rfl, by decide +kernel, rfl, by decide +kernel, by decide +kernel⟩ rfl rfl c__law_gathered (F.bindsN fun _ _ _ _ _ _ us hl => match us, hl with | [_], _ => rfl) (fun _ h => nomatch h)
theorem d__law_all {K : Frag} {mg : Str → Option Value} {f : Addr} {fd : FuncData} (F : FunD K "_law_all" "_law_all" (defArgs t__law_all) (defBody t__law_all) (defScope t__law_all) [] [] f fd) (hm : mg "_law_all" = some (.ref f)) : DefIn K mg Pgm B__law_all ⟨"_law_all", 24, 1, []⟩ :=
  defIn_of (e := ⟨"_law_all", 24, 1, []⟩) (B := B__law_all) (ps := ["points"]) F hm ⟨rfl, rfl, rfl, by decide +kernel, rfl, by decide +kernel, by decide +kernel⟩ rfl rfl c__law_all (F.bindsN fun _ _ _ _ _ _ us hl => match us, hl with | [_], _ => rfl) (fun _ h => nomatch h)
theorem d__law_number {K : Frag} {mg : Str → Option Value} {f : Addr} {fd : FuncData} (F : FunD K "_law_number" "_law_number" (defArgs t__law_number) (defBody t__law_number) (defScope t__law_number) [] [] f fd) (hm : mg "_law_number" = some (.ref f)) : DefIn K mg Pgm B__law_number ⟨"_law_number", 25, 1, []⟩ :=
  defIn_of (e := ⟨"_law_number", 25, 1, []⟩) (B := B__law_number) (ps := ["points"]) F hm ⟨rfl, rfl, rfl, by decide +kernel, rfl, by decide +kernel, by decide +kernel⟩ rfl rfl c__law_number (F.bindsN fun _ _ _ _ _ _ us hl => match us, hl with | [_], _ => rfl) (fun _ h => nomatch h)
theorem d__law_value_right {K : Frag} {mg : Str → Option Value} {f : Addr} {fd : FuncData} (F : FunD K "_law_value_right" "_law_value_right" (defArgs t__law_value_right) (defBody t__law_value_right) (defScope t__law_value_right) [] [] f fd) (hm : mg "_law_value_right" = some (.ref f)) : DefIn K mg Pgm B__law_value_right ⟨"_law_value_right", 26, 2, []⟩ :=
  defIn_of (e := ⟨"_law_value_right", 26, 2, []⟩) (B := B__law_value_right) (ps := ["value", "named"]) F hm ⟨rfl, rfl, rfl, by decide +kernel, rfl, by decide +kernel, by decide +kernel⟩ rfl rfl c__law_value_right (F.bindsN fun _ _ _ _ _ _ us hl => match us, hl with | [_, _], _ => rfl) (fun _ h => nomatch h)
theorem d_law {K : Frag} {mg : Str → Option Value} {f : Addr} {fd : FuncData} (F : FunD K "law" "law" (defArgs t_law) (defBody t_law) (defScope t_law) [] [] f fd) (hm : mg "law" = some (.ref f)) : DefIn K mg Pgm B_law ⟨"law", 27, 1, []⟩ :=
  defIn_of (e := ⟨"law", 27, 1, []⟩) (B := B_law) (ps := ["script"]) F hm ⟨rfl, rfl, rfl, by decide +kernel, rfl, by decide +kernel, by decide +kernel⟩ rfl rfl c_law (F.bindsN fun _ _ _ _ _ _ us hl => match us, hl with | [_], _ => rfl) (fun _ h => nomatch h)
theorem i_is_InvalidPartition : InitIs "TurnError" "given" (defBody i_InvalidPartition) := ⟨_, _, _, _, _, _, _, _, _, _, _, _, rfl, rfl⟩
theorem i_is_InvalidPoints : InitIs "TurnError" "given" (defBody i_InvalidPoints) := ⟨_, _, _, _, _, _, _, _, _, _, _, _, rfl, rfl⟩
theorem facts {P : Program} {w : World} {K : Frag} {h : Heap} {mg : Str → Option Value} (X : K.In h) (G : h.Ns mainGlobals mg) (c : He.SaysD fas dfs K) (ck : ckK K = true) (base : Heap) :
    TopIn P w K mg base (ctOf K cls) Pgm gls ims exs hds ∧ ∀ q ∈ fns, ∃ B : Tb, B.gl = gls ∧ B.fn = fns ∧ B.im = ims ∧ B.cst = [] ∧ B.ex = exs ∧ B.hd = hds ∧ DefIn K mg Pgm B q := by
  have k1 : ckC cls exmL K = true := (Bool.and_eq_true_iff.mp ck).1
  have k2 : imsB ims K = true := (Bool.and_eq_true_iff.mp ck).2
  have gl : ∀ x ∈ glos, mg x = some (.ref (He.ga K x)) := fun x hx => He.glo_ok X G (fact_mem c (List.mem_append_left _ (List.mem_map_of_mem hx)))
  have fr : ∀ x ∈ gls, mg x = none := fun x hx => He.free_ok X G (fact_mem c (List.mem_append_right _ (List.mem_map_of_mem hx)))
  refine ⟨⟨fr, imsB_ok X G k2, fun _ _ _ e => exm_join k1 e, fun _ _ e => fld_join k1 e, ?_, ?_⟩, ?_⟩
  · exact List.forall_mem_cons.mpr ⟨(c.def_ 28 rfl).elim fun fd F => ex_join (q := ⟨"InvalidPartition", 1, "given"⟩) k1 (rc := 0) (root := "TurnError") rfl rfl (gl _ (by decide)) (gl _ (by decide)) F i_is_InvalidPartition ⟨rfl, rfl, rfl, by decide +kernel, rfl, by decide +kernel, by decide +kernel⟩ (F.bindsN fun _ _ _ _ _ _ us hl => match us, hl with | [_, _], _ => rfl) (by decide +kernel), List.forall_mem_cons.mpr ⟨(c.def_ 29 rfl).elim fun fd F => ex_join (q := ⟨"InvalidPoints", 2, "given"⟩) k1 (rc := 0) (root := "TurnError") rfl rfl (gl _ (by decide)) (gl _ (by decide)) F i_is_InvalidPoints ⟨rfl, rfl, rfl, by decide +kernel, rfl, by decide +kernel, by decide +kernel⟩ (F.bindsN fun _ _ _ _ _ _ us hl => match us, hl with | [_, _], _ => rfl) (by decide +kernel), fun _ h => nomatch h⟩⟩
  · exact List.forall_mem_cons.mpr ⟨⟨_, _, gl "TurnError" (by decide), rfl⟩, List.forall_mem_cons.mpr ⟨⟨_, _, gl "InvalidPartition" (by decide), rfl⟩, List.forall_mem_cons.mpr ⟨⟨_, _, gl "InvalidPoints" (by decide), rfl⟩, fun _ h => nomatch h⟩⟩⟩
  · exact List.forall_mem_cons.mpr ⟨(c.def_ 0 rfl).elim fun fd F => ⟨B_is_integer, rfl, rfl, rfl, rfl, rfl, rfl, d_is_integer F (gl _ (by decide))⟩,
      List.forall_mem_cons.mpr ⟨(c.def_ 1 rfl).elim fun fd F => ⟨B_is_count, rfl, rfl, rfl, rfl, rfl, rfl, d_is_count F (gl _ (by decide))⟩,
      List.forall_mem_cons.mpr ⟨(c.def_ 2 rfl).elim fun fd F => ⟨B_is_between, rfl, rfl, rfl, rfl, rfl, rfl, d_is_between F (gl _ (by decide))⟩,
      List.forall_mem_cons.mpr ⟨(c.def_ 3 rfl).elim fun fd F => ⟨B_is_partition, rfl, rfl, rfl, rfl, rfl, rfl, d_is_partition F (gl _ (by decide))⟩,
      List.forall_mem_cons.mpr ⟨(c.def_ 4 rfl).elim fun fd F => ⟨B_check_partition, rfl, rfl, rfl, rfl, rfl, rfl, d_check_partition F (gl _ (by decide))⟩,
      List.forall_mem_cons.mpr ⟨(c.def_ 5 rfl).elim fun fd F => ⟨B_check_points, rfl, rfl, rfl, rfl, rfl, rfl, d_check_points F (gl _ (by decide))⟩,
      List.forall_mem_cons.mpr ⟨(c.def_ 6 rfl).elim fun fd F => ⟨B_block_count, rfl, rfl, rfl, rfl, rfl, rfl, d_block_count F (gl _ (by decide))⟩,
      List.forall_mem_cons.mpr ⟨(c.def_ 7 rfl).elim fun fd F => ⟨B_blocks_in, rfl, rfl, rfl, rfl, rfl, rfl, d_blocks_in F (gl _ (by decide))⟩,
      List.forall_mem_cons.mpr ⟨(c.def_ 8 rfl).elim fun fd F => ⟨B_partitions_in, rfl, rfl, rfl, rfl, rfl, rfl, d_partitions_in F (gl _ (by decide))⟩,
      List.forall_mem_cons.mpr ⟨(c.def_ 9 rfl).elim fun fd F => ⟨B_blocks, rfl, rfl, rfl, rfl, rfl, rfl, d_blocks F (gl _ (by decide))⟩,
      List.forall_mem_cons.mpr ⟨(c.def_ 10 rfl).elim fun fd F => ⟨B_partitions, rfl, rfl, rfl, rfl, rfl, rfl, d_partitions F (gl _ (by decide))⟩,
      List.forall_mem_cons.mpr ⟨(c.def_ 11 rfl).elim fun fd F => ⟨B__law_cell, rfl, rfl, rfl, rfl, rfl, rfl, d__law_cell F (gl _ (by decide))⟩,
      List.forall_mem_cons.mpr ⟨(c.def_ 12 rfl).elim fun fd F => ⟨B__law_box, rfl, rfl, rfl, rfl, rfl, rfl, d__law_box F (gl _ (by decide))⟩,
      List.forall_mem_cons.mpr ⟨(c.def_ 13 rfl).elim fun fd F => ⟨B__law_take, rfl, rfl, rfl, rfl, rfl, rfl, d__law_take F (gl _ (by decide))⟩,
      List.forall_mem_cons.mpr ⟨(c.def_ 14 rfl).elim fun fd F => ⟨B__law_mixed, rfl, rfl, rfl, rfl, rfl, rfl, d__law_mixed F (gl _ (by decide))⟩,
      List.forall_mem_cons.mpr ⟨(c.def_ 15 rfl).elim fun fd F => ⟨B__law_same, rfl, rfl, rfl, rfl, rfl, rfl, d__law_same F (gl _ (by decide))⟩,
      List.forall_mem_cons.mpr ⟨(c.def_ 16 rfl).elim fun fd F => ⟨B__law_whole, rfl, rfl, rfl, rfl, rfl, rfl, d__law_whole F (gl _ (by decide))⟩,
      List.forall_mem_cons.mpr ⟨(c.def_ 17 rfl).elim fun fd F => ⟨B__law_copy, rfl, rfl, rfl, rfl, rfl, rfl, d__law_copy F (gl _ (by decide))⟩,
      List.forall_mem_cons.mpr ⟨(c.def_ 18 rfl).elim fun fd F => ⟨B__law_blamed, rfl, rfl, rfl, rfl, rfl, rfl, d__law_blamed F (gl _ (by decide))⟩,
      List.forall_mem_cons.mpr ⟨(c.def_ 19 rfl).elim fun fd F => ⟨B__law_met, rfl, rfl, rfl, rfl, rfl, rfl, d__law_met F (gl _ (by decide))⟩,
      List.forall_mem_cons.mpr ⟨(c.def_ 20 rfl).elim fun fd F => ⟨B__law_is_partition, rfl, rfl, rfl, rfl, rfl, rfl, d__law_is_partition F (gl _ (by decide))⟩,
      List.forall_mem_cons.mpr ⟨(c.def_ 21 rfl).elim fun fd F => ⟨B__law_drawn, rfl, rfl, rfl, rfl, rfl, rfl, d__law_drawn F (gl _ (by decide))⟩,
      List.forall_mem_cons.mpr ⟨(c.def_ 22 rfl).elim fun fd F => ⟨B__law_near, rfl, rfl, rfl, rfl, rfl, rfl, d__law_near F (gl _ (by decide))⟩,
      List.forall_mem_cons.mpr ⟨(c.def_ 23 rfl).elim fun fd F => ⟨B__law_gathered, rfl, rfl, rfl, rfl, rfl, rfl, d__law_gathered F (gl _ (by decide))⟩,
      List.forall_mem_cons.mpr ⟨(c.def_ 24 rfl).elim fun fd F => ⟨B__law_all, rfl, rfl, rfl, rfl, rfl, rfl, d__law_all F (gl _ (by decide))⟩,
      List.forall_mem_cons.mpr ⟨(c.def_ 25 rfl).elim fun fd F => ⟨B__law_number, rfl, rfl, rfl, rfl, rfl, rfl, d__law_number F (gl _ (by decide))⟩,
      List.forall_mem_cons.mpr ⟨(c.def_ 26 rfl).elim fun fd F => ⟨B__law_value_right, rfl, rfl, rfl, rfl, rfl, rfl, d__law_value_right F (gl _ (by decide))⟩,
      List.forall_mem_cons.mpr ⟨(c.def_ 27 rfl).elim fun fd F => ⟨B_law, rfl, rfl, rfl, rfl, rfl, rfl, d_law F (gl _ (by decide))⟩,
      fun _ h => nomatch h⟩⟩⟩⟩⟩⟩⟩⟩⟩⟩⟩⟩⟩⟩⟩⟩⟩⟩⟩⟩⟩⟩⟩⟩⟩⟩⟩⟩
abbrev R : PySem.W.OpenRow := PySem.W.OpenLaw.row PySem.Challenge.rw_sixturns_k28_partitions
abbrev hk : PySem.W.Hook := hookM 4 ckK fas dfs
def ob (s : PySem.W.SharedT) : Bool × He.AlD := obsM 4 ckK fas dfs (HandSHeadRun.getT s)
theorem ob_eq (s : PySem.W.SharedT) : ob s = hk.obs s.abs := obsM_eq (HandSHeadRun.getT_eq s)
def loose : List Str := ["TurnError", "InvalidPartition", "InvalidPoints", "is_integer", "is_count", "is_between", "is_partition", "check_partition", "check_points", "block_count", "blocks_in", "partitions_in", "blocks", "partitions", "_law_cell", "_law_box", "_law_take", "_law_mixed", "_law_same", "_law_whole", "_law_copy", "_law_blamed", "_law_met", "_law_is_partition", "_law_drawn", "_law_near", "_law_gathered", "_law_all", "_law_number", "_law_value_right"]
theorem run (w : World) : HandSHeadRun.RunEq R (PySem.W.view R.prog [34]) hk ob 2000 loose w := by
  intro os
  kernel_rfl
/-- the law, but for the reckoning of the compact forms -/
theorem done (hrun : ∀ ns : List Int, ns.length ≤ 63 → ∃ S', Mini.run Pgm 30 27 [scrD ns] [] = .ok (.bl true) S') : PySem.Challenge.rw_sixturns_k28_partitions.Holds := by
  w_on; o_law
  refine HandSHeadRun.head_any (r := R) (q := PySem.W.view R.prog [34]) (H := hk) (ob := ob) (M := 2000) (loose := loose) (d := HandSHeadRun.topDef R.prog 34) (kwd := []) ob_eq
    (by kernel_rfl) (fun s => by kernel_rfl) run (by kernel_rfl) (by kernel_rfl) (by kernel_rfl) (by rfl) (by first | assumption | decide +kernel) (by decide +kernel) ⟨rfl, rfl, rfl, rfl, rfl, by decide +kernel⟩ ?hw ?hc
  case hw => w_witness2
  case hc =>
    refine L2.walk_ofE (l := PySem.Challenge.rw_sixturns_k28_partitions) (n := 63) (k := 32) (x := "script") (CX := CXe (PySem.Challenge.rw_sixturns_k28_partitions).prog) rfl (by decide) (by kernel_rfl) ⟨rfl, by decide, by decide⟩ ?F cxe_no
    intro w mg fa h Y G hmg0
    obtain ⟨K, KX, ck, c⟩ := Y
    have hmg : mg ("law" : Str) = some (.ref fa) := by
      have e : (HandSHeadRun.topDef R.prog 34).name = ("law" : Str) := by kernel_rfl
      rw [← e]
      exact hmg0
    have e := hmg.symm.trans (He.glo_ok KX G (fact_mem c (List.mem_append_left _ (List.mem_map_of_mem (a := ("law" : Str)) (by decide)))))
    cases e
    obtain ⟨fd, F⟩ := c.def_ 27 rfl
    refine ⟨K, fd, spF K (ctOf K cls) Pgm 1 30 27, KX, fun s v => FunD.bindsA (ps := ["script"]) F (fun _ _ _ _ _ _ us hl => match us, hl with | [_], _ => rfl) s [v] rfl, fun H a ns hl _ hS => law_sp hrun H a ns hl hS, fun base hB hN => ?_⟩
    obtain ⟨T, D⟩ := facts (P := (PySem.Challenge.rw_sixturns_k28_partitions).prog) (w := w) KX G c ck base
    exact (law_fn T (all_ok T D 29) rfl rfl rfl rfl rfl rfl (B := B_law) (b := b_law) (ps := ["script"]) F ⟨rfl, rfl, rfl, by decide +kernel, rfl, by decide +kernel, by decide +kernel⟩ rfl c_law)

end Mini.K28.Chk
end

theorem PySem.Challenge.cw_sixturns_k28_partitions_holds : PySem.Challenge.rw_sixturns_k28_partitions.Holds := by
  exact Mini.K28.Chk.done Mini.K28.law_run
