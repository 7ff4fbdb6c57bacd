import PyProof.Rows.All
import Wide.All
import OpenK.AllK
import Wide.FinOn
import PySem.Challenge.RW_termstream_k74_plans_by_form
import PyProof.ReprReads
import PyProof.EqLayable
import PyProof.StrBlockL
import HandS.ForMost
import HandS.Wide
import HandS.TupAny
import HandS.Deep
import HandS.Style
import HandS.IsInst
import PyProof.NeKinds
import HandS.Conv
import HandS.Text
import HandS.NoneIn
import HandS.Walk
import HandS.Zip
import HandS.More
import HandS.Ends
import Wide.Head
import HandS.HeadHook3
import PyProof.ReprLen
set_option exponentiation.threshold 20000
set_option linter.all false
/-! FD: data as trees, mutable objects by number, what a def of the text does as a function of these (no machine in sight). -/
namespace FL
open PySem

abbrev Ky := Sum Int Str

inductive D where
  | non | bl (b : Bool) | int (i : Int) | str (x : Str)
  | tup (xs : List D) | lst (xs : List D) | dic (ks : List Ky) (vs : List D)
  | scr (ns : List Int) | obj (n : Nat) | own (i : Nat) | ty (n : String) | gl (x : Str)
  deriving Inhabited

/-- a mutable object -/
inductive MO where
  | lst (xs : List D) | dic (ks : List Ky) (vs : List D) | dct (ks : List (List Ky)) (vs : List D)
  | ins (c : Str) (fs : List (Str × D)) | gone
  deriving Inhabited
/-- a slot of a frame: empty, a value, a list or dict that this slot alone holds -/
inductive Sl where
  | emp | val (d : D) | own (o : MO)
  deriving Inhabited
structure MT where
  env : List Sl
  st : List MO

inductive Out (α : Type) where
  | ok (a : α) (T : MT) | exc (c : Str) (fs : List (Str × D)) (T : MT) | stuck
/-- what an expression does -/
abbrev M (α : Type) := MT → Out α
@[inline] def ret {α : Type} (a : α) : M α := fun T => .ok a T
@[inline] def andThen {α β : Type} (o : Out α) (k : α → M β) : Out β := match o with
  | .ok a T => k a T
  | .exc c fs T => .exc c fs T
  | .stuck => .stuck
@[inline] def bnd {α β : Type} (m : M α) (k : α → M β) : M β := fun T => andThen (m T) k
@[inline] def lift {α : Type} (f : MT → Option α) : M α := fun T => match f T with
  | some a => .ok a T
  | none => .stuck
@[simp] theorem andThen_ok {α β : Type} {a : α} {T : MT} {k : α → M β} : andThen (.ok a T) k = k a T := rfl
@[simp] theorem andThen_exc {α β : Type} {c : Str} {fs : List (Str × D)} {T : MT} {k : α → M β} : andThen (.exc c fs T) k = .exc c fs T := rfl
@[simp] theorem andThen_stuck {α β : Type} {k : α → M β} : andThen (.stuck : Out α) k = .stuck := rfl

/-- what a statement does -/
inductive SO where
  | nx (T : MT) | rt (d : D) (T : MT) | bk (T : MT) | ct (T : MT) | exc (c : Str) (fs : List (Str × D)) (T : MT) | stuck
abbrev MS := MT → SO

/-- what a call does: an answer or an exception, and the mutable objects behind it -/
inductive FO where
  | ok (d : D) (st : List MO) | exc (c : Str) (fs : List (Str × D)) (st : List MO) | stuck
abbrev MF := List D → List MO → FO

/-! ### reading -/
def isTmp : D → Bool
  | .own _ => true
  | _ => false
/-- what stands behind a value: a list's things, .. -/
inductive Vw where
  | lst (xs : List D) | tup (xs : List D) | dic (ks : List Ky) (vs : List D) | dct (ks : List (List Ky)) (vs : List D) | ins (c : Str) (fs : List (Str × D)) | no
def moV : MO → Vw
  | .lst xs => .lst xs
  | .dic ks vs => .dic ks vs
  | .dct ks vs => .dct ks vs
  | .ins c fs => .ins c fs
  | .gone => .no
def vw (T : MT) : D → Vw
  | .lst xs => .lst xs
  | .tup xs => .tup xs
  | .dic ks vs => .dic ks vs
  | .scr ns => .no
  | .obj n => match T.st[n]? with
    | some o => moV o
    | none => .no
  | .own i => match T.env[i]? with
    | some (.own o) => moV o
    | _ => .no
  | _ => .no
@[simp] theorem vw_lst {T : MT} {xs : List D} : vw T (.lst xs) = .lst xs := rfl
@[simp] theorem vw_tup {T : MT} {xs : List D} : vw T (.tup xs) = .tup xs := rfl

def mC (d : D) : M D := fun T => .ok d T
/-- a name: what its slot holds; the slot's own object by the slot's number -/
def mVar (i : Nat) : M D := fun T => match T.env[i]? with
  | some (.val d) => .ok d T
  | some (.own _) => .ok (.own i) T
  | _ => .stuck
/-- a name whose own object is from now on a value that nobody changes -/
def mFrz (i : Nat) : M D := fun T => match T.env[i]? with
  | some (.val d) => .ok d T
  | some (.own (.lst xs)) => .ok (.lst xs) { T with env := T.env.set i (.val (.lst xs)) }
  | some (.own (.dic ks vs)) => .ok (.dic ks vs) { T with env := T.env.set i (.val (.dic ks vs)) }
  | _ => .stuck

/-- things' greatest length that is looked after -/
def sz : Nat := 1000000
/-- numbers' size -/
def lim : Nat := 2 ^ 8000
def small (i : Int) : Bool := decide (i.natAbs < lim)

def op1 (f : MT → D → Option D) (a : M D) : M D := bnd a fun x => lift fun T => f T x
def op2 (f : MT → D → D → Option D) (a b : M D) : M D := bnd a fun x => bnd b fun y => lift fun T => f T x y

def opAdd (T : MT) (x y : D) : Option D := match x, y with
  | .int i, .int j => some (.int (i + j))
  | .str i, .str j => if i.length + j.length ≤ sz then some (.str (i ++ j)) else none
  | _, _ => match vw T x, vw T y with
    | .tup xs, .tup ys => if xs.length + ys.length ≤ sz then some (.tup (xs ++ ys)) else none
    | .lst xs, .lst ys => if xs.length + ys.length ≤ sz then some (.lst (xs ++ ys)) else none
    | _, _ => none
def opSub (_ : MT) (x y : D) : Option D := match x, y with
  | .int i, .int j => some (.int (i - j))
  | _, _ => none
def opMul (T : MT) (x y : D) : Option D := match x, y with
  | .int i, .int j => if small i && small j then some (.int (i * j)) else none
  | .str x, .int k => if 0 ≤ k ∧ k ≤ 1000 ∧ x.length ≤ 1000 then some (.str ⟨(List.replicate k.toNat x.cps.toList).flatten.toArray⟩) else none
  | x, .int k => match vw T x with
    | .lst xs => if 0 ≤ k ∧ k ≤ 100000 ∧ xs.length ≤ 100 then some (.lst (List.replicate k.toNat xs).flatten) else none
    | _ => none
  | _, _ => none
def opFdiv (_ : MT) (x y : D) : Option D := match x, y with
  | .int i, .int j => if small j && j != 0 then some (.int (i.fdiv j)) else none
  | _, _ => none
def opMod (_ : MT) (x y : D) : Option D := match x, y with
  | .int i, .int j => if j != 0 then some (.int (i.fmod j)) else none
  | _, _ => none
def opPow (_ : MT) (x y : D) : Option D := match x, y with
  | .int i, .int j => if 0 ≤ j ∧ j ≤ 100 ∧ i.natAbs < 2 ^ 64 then some (.int (i ^ j.toNat)) else none
  | _, _ => none
def opNeg (_ : MT) (x : D) : Option D := match x with
  | .int i => some (.int (-i))
  | _ => none

/-! ### comparisons, tests -/
def flatD : D → Bool
  | .non => true
  | .bl _ => true
  | .int _ => true
  | .str _ => true
  | _ => false
def eqF : D → D → Bool
  | .non, .non => true
  | .bl a, .bl b => a == b
  | .bl a, .int b => (if a then 1 else 0) == b
  | .int a, .bl b => a == (if b then 1 else 0)
  | .int a, .int b => a == b
  | .str a, .str b => a == b
  | _, _ => false
mutual
def toP : D → Option PyData
  | .non => some .none
  | .bl b => some (.bool b)
  | .int i => some (.int i)
  | .str x => some (.str x)
  | .tup xs => (toPs xs).map .tuple
  | .lst xs => (toPs xs).map .list
  | _ => none
def toPs : List D → Option (List PyData)
  | [] => some []
  | d :: ds => (toP d).bind fun p => (toPs ds).map fun ps => p :: ps
end
/-- a value as data, a mutable list by what it holds -/
def toPT (T : MT) (d : D) : Option PyData := match vw T d with
  | .lst xs => (toPs xs).map .list
  | _ => toP d
def opEq (T : MT) (x y : D) : Option Bool := match x, y with
  | .int i, .int j => some (i == j)
  | .str i, .str j => some (i == j)
  | .bl i, .bl j => some (i == j)
  | _, _ => match vw T x, vw T y with
    | .lst xs, .lst [] => some xs.isEmpty
    | .tup xs, .tup [] => some xs.isEmpty
    | _, _ => match toPT T x, toPT T y with
      | some p, some q => if SeqAt.shaped p && SeqAt.shaped q then some (PyData.eqv p q) else none
      | _, _ => none
def opNe (T : MT) (x y : D) : Option Bool := (opEq T x y).map (!·)
def opLt (_ : MT) (x y : D) : Option Bool := match x, y with
  | .int i, .int j => some (decide (i < j))
  | _, _ => none
def opLe (_ : MT) (x y : D) : Option Bool := match x, y with
  | .int i, .int j => some (decide (i ≤ j))
  | _, _ => none
def opGt (_ : MT) (x y : D) : Option Bool := match x, y with
  | .int i, .int j => some (decide (j < i))
  | _, _ => none
def opGe (_ : MT) (x y : D) : Option Bool := match x, y with
  | .int i, .int j => some (decide (j ≤ i))
  | _, _ => none
/-- x in y: a sign in a text, a flat thing in a list or tuple of flat things -/
def opIn (T : MT) (x y : D) : Option Bool := match x, y with
  | .str c, .str z => if c.cps.size = 1 then some (decide (c.cps.getD 0 0 ∈ z.cps.toList)) else none
  | _, _ => match vw T y with
    | .lst ys => if flatD x && ys.all flatD then some (ys.any fun z => eqF z x) else none
    | .tup ys => if flatD x && ys.all flatD then some (ys.any fun z => eqF z x) else none
    | _ => none
def opNotIn (T : MT) (x y : D) : Option Bool := (opIn T x y).map (!·)
def isNonD : D → Bool
  | .non => true
  | _ => false
/-- x is None, x is True -/
def opIs (_ : MT) (x y : D) : Option Bool := match y with
  | .non => match x with
    | .own _ => none
    | .gl _ => none
    | x => some (isNonD x)
  | .bl b => match x with
    | .bl a => some (a == b)
    | _ => none
  | _ => none
def opIsNot (T : MT) (x y : D) : Option Bool := (opIs T x y).map (!·)

abbrev Cmp := MT → D → D → Option Bool
def cmpV (f : Cmp) (a b : M D) : M D := op2 (fun T x y => (f T x y).map D.bl) a b
def cmpB (f : Cmp) (a b : M D) : M Bool := bnd a fun x => bnd b fun y => lift fun T => f T x y
def chainV (f g : Cmp) (a b c : M D) : M D := bnd a fun x => bnd b fun y => bnd (lift fun T => f T x y) fun k => if k then bnd c fun z => lift fun T => (g T y z).map D.bl else ret (.bl false)
def chainB (f g : Cmp) (a b c : M D) : M Bool := bnd a fun x => bnd b fun y => bnd (lift fun T => f T x y) fun k => if k then bnd c fun z => lift fun T => g T y z else ret false
def toB : D → Option Bool
  | .bl b => some b
  | _ => none
/-- the truth of a value -/
def truth (T : MT) (x : D) : Option Bool := match x with
  | .non => some false
  | .bl b => some b
  | .int i => some (i != 0)
  | .str z => if z.length ≤ sz then some ((z.length : Int) != 0) else none
  | _ => match vw T x with
    | .lst xs => some (!xs.isEmpty)
    | .tup xs => some (!xs.isEmpty)
    | _ => none
def bTru (a : M D) : M Bool := bnd a fun x => lift fun T => truth T x
def bBool (a : M D) : M Bool := bnd a fun x => lift fun _ => toB x
def bAnd (a b : M Bool) : M Bool := bnd a fun c => if c then b else ret false
def bOr (a b : M Bool) : M Bool := bnd a fun c => if c then ret true else b
def bNot (a : M Bool) : M Bool := bnd a fun c => ret (!c)
def vAnd (a b : M D) : M D := bnd a fun x => bnd (lift fun _ => toB x) fun c => if c then b else ret (.bl false)
def vOr (a b : M D) : M D := bnd a fun x => bnd (lift fun _ => toB x) fun c => if c then ret (.bl true) else b
def vNot (a : M D) : M D := bnd a fun x => bnd (lift fun _ => toB x) fun c => ret (.bl (!c))
def mIf {α : Type} (c : M Bool) (a b : M α) : M α := bnd c fun k => if k then a else b

/-! ### calls of built-ins, places, slices, displays -/
abbrev Bi := MT → List D → Option D
def aNil : M (List D) := ret []
def aCons (a : M D) (r : M (List D)) : M (List D) := bnd a fun x => bnd r fun xs => ret (x :: xs)
def callB (f : Bi) (args : M (List D)) : M D := bnd args fun ds => lift fun T => f T ds
inductive Ty where
  | non | bl | int | str | lst | tup | dic
  deriving DecidableEq
def tyD (T : MT) (d : D) : Option Ty := match d with
  | .non => some .non
  | .bl _ => some .bl
  | .int _ => some .int
  | .str _ => some .str
  | .scr _ => some .lst
  | _ => match vw T d with
    | .lst _ => some .lst
    | .tup _ => some .tup
    | .dic _ _ => some .dic
    | _ => none
def isTy : Ty → Ty → Bool
  | .bl, .int => true
  | a, b => decide (a = b)
def biIsi (t : Ty) : Bi := fun T ds => match ds with
  | [x] => (tyD T x).map fun a => .bl (isTy a t)
  | _ => none
def biIsi2 (t u : Ty) : Bi := fun T ds => match ds with
  | [x] => (tyD T x).map fun a => .bl (isTy a t || isTy a u)
  | _ => none
def lenD (T : MT) (d : D) : Option Nat := match d with
  | .str z => if z.length ≤ sz then some z.length else none
  | .scr ns => some ns.length
  | _ => match vw T d with
    | .lst xs => some xs.length
    | .tup xs => some xs.length
    | _ => none
def biLen : Bi := fun T ds => match ds with
  | [x] => (lenD T x).map fun n => .int n
  | _ => none
def biAbs : Bi := fun _ ds => match ds with
  | [.int i] => some (.int (if i < 0 then -i else i))
  | _ => none
def biMax2 : Bi := fun _ ds => match ds with
  | [.int i, .int j] => some (.int (if j > i then j else i))
  | _ => none
def biMin2 : Bi := fun _ ds => match ds with
  | [.int i, .int j] => some (.int (if j < i then j else i))
  | _ => none
def biInt : Bi := fun _ ds => match ds with
  | [.int i] => some (.int i)
  | [.bl k] => some (.int (if k then 1 else 0))
  | _ => none
def biStrI : Bi := fun _ ds => match ds with
  | [.int i] => if i.natAbs < 2 ^ 1900 then some (.str (toString i)) else none
  | _ => none
def biList : Bi := fun T ds => match ds with
  | [x] => match vw T x with
    | .lst xs => some (.lst xs)
    | .tup xs => some (.lst xs)
    | _ => none
  | _ => none
def biTuple : Bi := fun T ds => match ds with
  | [x] => match vw T x with
    | .lst xs => some (.tup xs)
    | .tup xs => some (.tup xs)
    | _ => none
  | _ => none
def toInts : List D → Option (List Int)
  | [] => some []
  | .int i :: ds => (toInts ds).map (i :: ·)
  | _ :: _ => none
def toBls : List D → Option (List Bool)
  | [] => some []
  | .bl i :: ds => (toBls ds).map (i :: ·)
  | _ :: _ => none
def maxI (n : Int) (ns : List Int) : Int := ns.foldl (fun a b => if b > a then b else a) n
def minI (n : Int) (ns : List Int) : Int := ns.foldl (fun a b => if b < a then b else a) n
def listOf (T : MT) (x : D) : Option (List D) := match vw T x with
  | .lst xs => some xs
  | _ => none
def biSum : Bi := fun T ds => match ds with
  | [x] => ((listOf T x).bind toInts).map fun ns => .int ns.sum
  | _ => none
def biMax : Bi := fun T ds => match ds with
  | [x] => match (listOf T x).bind toInts with
    | some (n :: ns) => some (.int (maxI n ns))
    | _ => none
  | _ => none
def biMin : Bi := fun T ds => match ds with
  | [x] => match (listOf T x).bind toInts with
    | some (n :: ns) => some (.int (minI n ns))
    | _ => none
  | _ => none
def biAll : Bi := fun T ds => match ds with
  | [x] => ((listOf T x).bind toBls).map fun bs => .bl (bs.all id)
  | _ => none
def biAny : Bi := fun T ds => match ds with
  | [x] => ((listOf T x).bind toBls).map fun bs => .bl (bs.any id)
  | _ => none
/-- range's numbers, as a list or a tuple -/
def rgD (a b : Int) : List D := (List.range (b - a).toNat).map fun i => .int (a + (i : Nat))
def rgOk (a b : Int) : Bool := decide (-1000000 ≤ a ∧ a ≤ 1000000 ∧ -1000000 ≤ b ∧ b ≤ 1000000)
def biListR : Bi := fun _ ds => match ds with
  | [.int b] => if rgOk 0 b then some (.lst (rgD 0 b)) else none
  | [.int a, .int b] => if rgOk a b then some (.lst (rgD a b)) else none
  | _ => none
def biTupR : Bi := fun _ ds => match ds with
  | [.int b] => if rgOk 0 b then some (.tup (rgD 0 b)) else none
  | [.int a, .int b] => if rgOk a b then some (.tup (rgD a b)) else none
  | _ => none
mutual
def toR : D → Option PyData
  | .non => some .none
  | .bl b => some (.bool b)
  | .int i => some (.int i)
  | .str x => some (.str x)
  | .tup xs => (toRs xs).map .tuple
  | .lst xs => (toRs xs).map .list
  | .dic [] [] => some (.dict [])
  | _ => none
def toRs : List D → Option (List PyData)
  | [] => some []
  | d :: ds => (toR d).bind fun p => (toRs ds).map fun ps => p :: ps
end
def toRT (T : MT) (d : D) : Option PyData := match vw T d with
  | .lst xs => (toRs xs).map .list
  | _ => toR d
def shows (p : PyData) : Bool := p.showable && decide (p.depth ≤ 60) && decide (p.shown.length ≤ sizeLine)
def biRepr : Bi := fun T ds => match ds with
  | [x] => (toRT T x).bind fun p => if shows p then some (.str p.shown) else none
  | _ => none

/-- an index into n things -/
def ixD (n : Nat) (i : Int) : Option Nat := if 0 ≤ i then (if i < n then some i.toNat else none) else if -(n : Int) ≤ i then some (i + n).toNat else none
def opIx (T : MT) (x y : D) : Option D := match y with
  | .int i => match x with
    | .str z => if z.length ≤ sz then (ixD z.length i).bind fun j => z.cps.toList[j]?.map fun c => .str ⟨#[c]⟩ else none
    | .scr ns => (ixD ns.length i).bind fun j => ns[j]?.map .int
    | _ => match vw T x with
      | .lst xs => (ixD xs.length i).bind fun j => xs[j]?
      | .tup xs => (ixD xs.length i).bind fun j => xs[j]?
      | _ => none
  | _ => none
/-- a slice's end -/
def slE (n d : Nat) : Option Int → Nat
  | none => d
  | some v => if v < 0 then (v + (n : Int)).toNat else min v.toNat n
def cutD {α : Type} (xs : List α) (lo hi : Option Int) : List α := (xs.drop (slE xs.length 0 lo)).take (slE xs.length xs.length hi - slE xs.length 0 lo)
def slice (T : MT) (x : D) (lo hi : Option Int) : Option D := match x with
  | .str z => if z.length ≤ sz then some (.str ⟨(cutD z.cps.toList lo hi).toArray⟩) else none
  | _ => match vw T x with
    | .lst xs => some (.lst (cutD xs lo hi))
    | .tup xs => some (.tup (cutD xs lo hi))
    | _ => none
def oNone : M (Option Int) := ret none
def toI : D → Option Int
  | .int i => some i
  | _ => none
def oSome (a : M D) : M (Option Int) := bnd a fun x => lift fun _ => (toI x).map some
def mSlice (a : M D) (lo hi : M (Option Int)) : M D := bnd a fun x => bnd lo fun l => bnd hi fun h => lift fun T => slice T x l h
/-- displays: of things that nobody changes -/
def noTmp (ds : List D) : Bool := ds.all fun d => !isTmp d
def mTup (a : M (List D)) : M D := bnd a fun ds => lift fun _ => if noTmp ds && decide (ds.length ≤ sz) then some (.tup ds) else none

/-! ### calls of mirrors -/
def FO.out (o : FO) (T : MT) : Out D := match o with
  | .ok d st => .ok d { T with st := st }
  | .exc c fs st => .exc c fs { T with st := st }
  | .stuck => .stuck
def callF (n : Nat) (mf : MF) (dfl : List D) (ds : List D) : M D := fun T => if noTmp ds && decide ((ds ++ dfl).length = n) then (mf (ds ++ dfl) T.st).out T else .stuck
def mCall (n : Nat) (mf : MF) (dfl : List D) (args : M (List D)) : M D := bnd args fun ds => callF n mf dfl ds

/-! ### statements -/
def setV (T : MT) (i : Nat) (d : D) : MT := { T with env := T.env.set i (.val d) }
def setO (T : MT) (i : Nat) (o : MO) : MT := { T with env := T.env.set i (.own o) }
def setS (T : MT) (n : Nat) (o : MO) : MT := { T with st := T.st.set n o }
def sOf {α : Type} (o : Out α) (k : α → MS) : SO := match o with
  | .ok a T => k a T
  | .exc c fs T => .exc c fs T
  | .stuck => .stuck
@[simp] theorem sOf_ok {α : Type} {a : α} {T : MT} {k : α → MS} : sOf (.ok a T) k = k a T := rfl
def sSkip : MS := fun T => .nx T
def sSeq (a b : MS) : MS := fun T => match a T with
  | .nx T' => b T'
  | o => o
def sRet (m : M D) : MS := fun T => sOf (m T) fun d T => if isTmp d then .stuck else .rt d T
def sRetN : MS := fun T => .rt .non T
def sIf (c : M Bool) (a b : MS) : MS := fun T => sOf (c T) fun k => if k then a else b
def sExpr (m : M D) : MS := fun T => sOf (m T) fun _ => sSkip
/-- x = e -/
def sSet (i : Nat) (m : M D) : MS := fun T => sOf (m T) fun d T => if isTmp d then .stuck else .nx (setV T i d)
/-- x = a new list that this slot alone holds -/
def sOwn (i : Nat) (m : M (List D)) : MS := fun T => sOf (m T) fun xs T => .nx (setO T i (.lst xs))
/-- a target -/
abbrev Tg := D → MT → Option MT
abbrev Tgs := List D → MT → Option MT
def gNm (i : Nat) : Tg := fun d T => if isTmp d then none else some (setV T i d)
def gNil : Tgs := fun ds T => match ds with
  | [] => some T
  | _ => none
def gCons (g : Tg) (gs : Tgs) : Tgs := fun ds T => match ds with
  | d :: ds => (g d T).bind (gs ds)
  | [] => none
/-- a, b = a tuple; a list -/
def gTp (gs : Tgs) : Tg := fun d T => match d with
  | .tup xs => gs xs T
  | _ => none
def gLs (gs : Tgs) : Tg := fun d T => match vw T d with
  | .lst xs => gs xs T
  | _ => none
def sAsg (m : M D) (g : Tg) : MS := fun T => sOf (m T) fun d T => match g d T with
  | some T => .nx T
  | none => .stuck
/-- a, b = e, f; both plain slots -/
def sPar (i j : Nat) (m : M (List D)) : MS := fun T => sOf (m T) fun ds T => match ds with
  | [d, e] => if isTmp d || isTmp e then .stuck else .nx (setV (setV T i d) j e)
  | _ => .stuck
/-- x.append(e), x a slot's own list -/
def sApp (i : Nat) (m : M D) : MS := fun T => match T.env[i]? with
  | some (.own (.lst _)) => sOf (m T) fun d T => match T.env[i]? with
    | some (.own (.lst xs)) => if isTmp d || decide (sz ≤ xs.length) then .stuck else .nx (setO T i (.lst (xs ++ [d])))
    | _ => .stuck
  | _ => .stuck
/-- x.extend(e), x a slot's own list -/
def sExt (i : Nat) (m : M D) : MS := fun T => match T.env[i]? with
  | some (.own (.lst _)) => sOf (m T) fun d T => match T.env[i]?, d with
    | some (.own (.lst xs)), .lst ys => if xs.length + ys.length ≤ sz then .nx (setO T i (.lst (xs ++ ys))) else .stuck
    | _, _ => .stuck
  | _ => .stuck
/-- o[k] = e: a mutable list -/
def sSetIx (o k m : M D) : MS := fun T => sOf (m T) fun d T => sOf (o T) fun x T => sOf (k T) fun y T => match x, y with
  | .obj n, .int j => match T.st[n]? with
    | some (.lst xs) => match ixD xs.length j with
      | some p => if isTmp d then .stuck else .nx (setS T n (.lst (xs.set p d)))
      | none => .stuck
    | _ => .stuck
  | .own i, .int j => match T.env[i]? with
    | some (.own (.lst xs)) => match ixD xs.length j with
      | some p => if isTmp d then .stuck else .nx (setO T i (.lst (xs.set p d)))
      | none => .stuck
    | _ => .stuck
  | _, _ => .stuck
/-- x += e -/
def sAug (i : Nat) (f : MT → D → D → Option D) (m : M D) : MS := fun T => sOf (mVar i T) fun x T => sOf (m T) fun y T => match f T x y with
  | some z => if isTmp z then .stuck else .nx (setV T i z)
  | none => .stuck
/-- new lists: as nobody's any more, as a mutable object -/
def vL (m : M (List D)) : M D := bnd m fun xs => ret (.lst xs)
def aL (m : M (List D)) : M D := bnd m fun xs => fun T => .ok (.obj T.st.length) { T with st := T.st ++ [.lst xs] }
def fLst (a : M (List D)) : M (List D) := bnd a fun ds => lift fun _ => if noTmp ds && decide (ds.length ≤ sz) then some ds else none
/-- what a body gives -/
def runB (b : MS) (N : Nat) : MF := fun ds st => match b ⟨ds.map Sl.val ++ List.replicate (N - ds.length) Sl.emp, st⟩ with
  | .nx T => .ok .non T.st
  | .rt d T => .ok d T.st
  | .exc c fs T => .exc c fs T.st
  | _ => .stuck

/-! ### loops, comprehensions -/
def forL (g : Tg) (body : MS) : List D → MS
  | [] => sSkip
  | x :: xs => fun T => match g x T with
    | none => .stuck
    | some T1 => match body T1 with
      | .nx T2 => forL g body xs T2
      | .ct T2 => forL g body xs T2
      | .bk T2 => .nx T2
      | o => o
def sFor (src : M (List D)) (g : Tg) (body : MS) : MS := fun T => sOf (src T) fun xs => forL g body xs
def whileN (c : M Bool) (body : MS) : Nat → MS
  | 0 => fun _ => .stuck
  | n + 1 => fun T => sOf (c T) fun b T1 => if b then (match body T1 with
      | .nx T2 => whileN c body n T2
      | .ct T2 => whileN c body n T2
      | .bk T2 => .nx T2
      | o => o) else .nx T1
open Classical in
/-- a while, where it comes to an end -/
noncomputable def sWhile (c : M Bool) (body : MS) : MS := fun T => if h : ∃ n, whileN c body n T ≠ .stuck then whileN c body (Classical.choose h) T else .stuck
theorem whileN_mono (c : M Bool) (body : MS) : ∀ (n : Nat) (T : MT), whileN c body n T ≠ .stuck → whileN c body (n + 1) T = whileN c body n T
  | 0, T, h => absurd rfl h
  | n + 1, T, h => by
    unfold whileN at h ⊢
    cases hc : c T with
    | ok b T1 =>
      rw [hc] at h
      simp only [sOf_ok] at h ⊢
      cases b with
      | false => rfl
      | true =>
        simp only [if_true] at h ⊢
        cases hb : body T1 with
        | nx T2 =>
          rw [hb] at h
          exact whileN_mono c body n T2 h
        | ct T2 =>
          rw [hb] at h
          exact whileN_mono c body n T2 h
        | bk T2 => rfl
        | rt d T2 => rfl
        | exc a b T2 => rfl
        | stuck => rfl
    | exc a b T1 => rfl
    | stuck => rfl
theorem whileN_le (c : M Bool) (body : MS) {n : Nat} {T : MT} (h : whileN c body n T ≠ .stuck) : ∀ k, whileN c body (n + k) T = whileN c body n T
  | 0 => rfl
  | k + 1 => by
    have e := whileN_le c body h k
    rw [← e] at h
    exact (whileN_mono c body (n + k) T h).trans e
theorem sWhile_of {c : M Bool} {body : MS} {n : Nat} {T : MT} (h : whileN c body n T ≠ .stuck) : sWhile c body T = whileN c body n T := by
  have hx : ∃ n, whileN c body n T ≠ .stuck := ⟨n, h⟩
  unfold sWhile
  rw [dif_pos hx]
  have h2 := Classical.choose_spec hx
  generalize Classical.choose hx = m at h2
  rcases Nat.le_total n m with q | q
  · obtain ⟨k, rfl⟩ := Nat.exists_eq_add_of_le q
    exact whileN_le c body h k
  · obtain ⟨k, rfl⟩ := Nat.exists_eq_add_of_le q
    exact (whileN_le c body h2 k).symm
theorem sWhile_ex {c : M Bool} {body : MS} {T : MT} (h : sWhile c body T ≠ .stuck) : ∃ n, whileN c body n T ≠ .stuck := by
  unfold sWhile at h
  by_cases hx : ∃ n, whileN c body n T ≠ .stuck
  · exact hx
  · rw [dif_neg hx] at h
    exact absurd rfl h
/-- one turn -/
theorem sWhile_eq (c : M Bool) (body : MS) (T : MT) : sWhile c body T = sOf (c T) fun b T1 => if b then (match body T1 with
      | .nx T2 => sWhile c body T2
      | .ct T2 => sWhile c body T2
      | .bk T2 => .nx T2
      | o => o) else .nx T1 := by
  by_cases hx : ∃ n, whileN c body n T ≠ .stuck
  · obtain ⟨n, hn⟩ := hx
    rw [sWhile_of hn]
    cases n with
    | zero => exact absurd rfl hn
    | succ n =>
      unfold whileN at hn ⊢
      cases hc : c T with
      | ok b T1 =>
        rw [hc] at hn
        simp only [sOf_ok] at hn ⊢
        cases b with
        | false => rfl
        | true =>
          simp only [if_true] at hn ⊢
          cases hb : body T1 with
          | nx T2 =>
            rw [hb] at hn
            exact (sWhile_of hn).symm
          | ct T2 =>
            rw [hb] at hn
            exact (sWhile_of hn).symm
          | bk T2 => rfl
          | rt d T2 => rfl
          | exc a b T2 => rfl
          | stuck => rfl
      | exc a b T1 => rfl
      | stuck => rfl
  · have e : sWhile c body T = .stuck := by
      unfold sWhile
      rw [dif_neg hx]
    rw [e]
    have no : ∀ n, whileN c body n T = .stuck := fun n => Classical.byContradiction fun z => hx ⟨n, z⟩
    cases hc : c T with
    | ok b T1 =>
      have n1 := no 1
      unfold whileN at n1
      rw [hc] at n1
      simp only [sOf_ok] at n1 ⊢
      cases b with
      | false => simp at n1
      | true =>
        simp only [if_true] at n1 ⊢
        have key : ∀ T2, (∀ n, whileN c body (n + 1) T = whileN c body n T2) → sWhile c body T2 = .stuck := fun T2 hh => by
          unfold sWhile
          rw [dif_neg]
          rintro ⟨n, hn⟩
          exact hn ((hh n).symm.trans (no (n + 1)))
        cases hb : body T1 with
        | nx T2 => exact (key T2 fun n => by
            show (whileN c body (n + 1)) T = _
            unfold whileN
            rw [hc]
            simp only [sOf_ok, if_true, hb]
            cases n <;> rfl).symm
        | ct T2 => exact (key T2 fun n => by
            show (whileN c body (n + 1)) T = _
            unfold whileN
            rw [hc]
            simp only [sOf_ok, if_true, hb]
            cases n <;> rfl).symm
        | bk T2 => rw [hb] at n1; cases n1
        | rt d T2 => rw [hb] at n1; cases n1
        | exc a b T2 => rw [hb] at n1; cases n1
        | stuck => rfl
    | exc a b T1 =>
      have n1 := no 1
      unfold whileN at n1
      rw [hc] at n1
      cases n1
    | stuck => rfl
/-- slots forgotten, kept -/
def wipeL (env : List Sl) : List Nat → List Sl
  | [] => env
  | v :: vs => (wipeL env vs).set v .emp
def wipeT (vs : List Nat) (T : MT) : MT := { T with env := wipeL T.env vs }
def keepV : Option Sl → Sl
  | some (.val d) => .val d
  | _ => .emp
def restL (env0 env : List Sl) : List Nat → List Sl
  | [] => env
  | v :: vs => (restL env0 env vs).set v (keepV env0[v]?)
def compL (vs : List Nat) (g : Tg) (test : M Bool) (elt : M D) : List D → List D → MT → Out (List D)
  | [], acc, T => .ok acc T
  | x :: xs, acc, T => match g x (wipeT vs T) with
    | none => .stuck
    | some T1 => match test T1 with
      | .ok true T2 => match elt T2 with
        | .ok d T3 => if isTmp d || decide (sz ≤ acc.length) then .stuck else compL vs g test elt xs (acc ++ [d]) T3
        | _ => .stuck
      | .ok false T2 => compL vs g test elt xs acc T2
      | _ => .stuck
/-- [elt for g in src if test] -/
def fComp (vs : List Nat) (src : M (List D)) (g : Tg) (test : M Bool) (elt : M D) : M (List D) := bnd src fun xs T => match compL vs g test elt xs [] T with
  | .ok acc T' => .ok acc { T' with env := restL T.env T'.env vs }
  | _ => .stuck
/-- what is walked -/
def seqOf : D → Option (List D)
  | .lst xs => some xs
  | .tup xs => some xs
  | _ => none
def itSeq (a : M D) : M (List D) := bnd a fun x => lift fun _ => seqOf x
def rg1 : D → Option (List D)
  | .int b => if rgOk 0 b then some (rgD 0 b) else none
  | _ => none
def rg2 : D → D → Option (List D)
  | .int a, .int b => if rgOk a b then some (rgD a b) else none
  | _, _ => none
def itRange1 (a : M D) : M (List D) := bnd a fun x => lift fun _ => rg1 x
def itRange2 (a b : M D) : M (List D) := bnd a fun x => bnd b fun y => lift fun _ => rg2 x y
def signsD : D → Option (List D)
  | .str z => some (z.cps.toList.map fun c => .str ⟨#[c]⟩)
  | _ => none
def itStr (a : M D) : M (List D) := bnd a fun x => lift fun _ => signsD x
def zipD : D → D → Option (List D)
  | .lst xs, .lst ys => some (List.zipWith (fun x y => .tup [x, y]) xs ys)
  | .tup xs, .tup ys => some (List.zipWith (fun x y => .tup [x, y]) xs ys)
  | _, _ => none
def itZip (a b : M D) : M (List D) := bnd a fun x => bnd b fun y => lift fun _ => zipD x y
def enumD (k : Nat) : List D → List D
  | [] => []
  | x :: xs => .tup [.int k, x] :: enumD (k + 1) xs
def enumOf : D → Option (List D)
  | .lst xs => some (enumD 0 xs)
  | _ => none
def itEnum (a : M D) : M (List D) := bnd a fun x => lift fun _ => enumOf x

/-! ### texts, dicts -/
def toStrs : List D → Option (List Str)
  | [] => some []
  | .str i :: ds => (toStrs ds).map (i :: ·)
  | _ :: _ => none

def seqT (T : MT) (x : D) : Option (List D) := match vw T x with
  | .lst xs => some xs
  | .tup xs => some xs
  | _ => none
def opJoin (T : MT) (x y : D) : Option D := match x with
  | .str a => (seqT T y).bind fun xs => (toStrs xs).bind fun ys => if (ys.map (·.length)).sum + ys.length * a.length ≤ sz then some (.str (Txt.join a ys)) else none
  | _ => none
def opRev (T : MT) (x : D) : Option D := (listOf T x).map fun xs => .lst xs.reverse
def toKy : D → Option Ky
  | .int i => some (.inl i)
  | .str x => some (.inr x)
  | _ => none
/-- a dict's value at a key, d[k], k in d -/
def lookD : List Ky → List D → Ky → Option D
  | k :: ks, d :: ds, x => if k = x then some d else lookD ks ds x
  | _, _, _ => none
def opDGet (T : MT) (x y : D) : Option D := match vw T x with
  | .dic ks ds => (toKy y).bind fun k => lookD ks ds k
  | _ => none
def opDIn (T : MT) (y x : D) : Option Bool := match vw T x with
  | .dic ks ds => (toKy y).map fun k => (lookD ks ds k).isSome
  | _ => none
def opDNotIn (T : MT) (y x : D) : Option Bool := (opDIn T y x).map (!·)
/-- a dict of the top, by texts -/
def tabGet (tab : List (Str × D)) (y : D) : Option D := match y with
  | .str z => tab.lookup z
  | _ => none
def mTabGet (tab : List (Str × D)) (m : M D) : M D := bnd m fun y => lift fun _ => tabGet tab y
def tabIn (tab : List (Str × D)) (y : D) : Option Bool := match y with
  | .str z => some (tab.lookup z).isSome
  | _ => none
def bTabIn (tab : List (Str × D)) (m : M D) : M Bool := bnd m fun y => lift fun _ => tabIn tab y
def bTabNotIn (tab : List (Str × D)) (m : M D) : M Bool := bnd m fun y => lift fun _ => (tabIn tab y).map (!·)
/-- a display of a dict with written text keys -/
def mDic (ks : List Ky) (vals : M (List D)) : M D := bnd vals fun ds => lift fun _ => if noTmp ds && decide (ks.length = ds.length) then some (.dic ks ds) else none
/-- a call of a def that a slot holds -/
def mCallV (i n : Nat) (tab : List (Str × MF)) (args : M (List D)) : M D := fun T => match T.env[i]? with
  | some (.val (.gl x)) => match tab.lookup x with
    | some mf => (bnd args fun ds => callF n mf [] ds) T
    | none => .stuck
  | _ => .stuck
end FL

set_option Elab.async false
set_option linter.all false
set_option maxRecDepth 100000
set_option maxHeartbeats 4000000
/-! FL1: the worlds, what a tree stands for, readings by mirrors. -/
namespace FL
open PySem PySem.Spec PyProof.Rows L2

/-- a world: the written part, the module's names, where the mutable objects stand, what nobody changes any more, what the callers alone change -/
structure Wd where
  K : PySem.W.Frag
  mg : Str → Option Value
  as : List Addr
  F : Hp
  G : Hp

def isDic (K : PySem.W.Frag) (F : Hp) (a : Addr) (kvs : List (Key × V)) : Prop := F a = some (.dK kvs)

mutual
/-- v is d -/
def Rep (W : Wd) : D → V → Prop
  | .non, v => v = .non
  | .bl b, v => v = .bl b
  | .int i, v => v = .int i
  | .str x, v => v = .str x
  | .tup xs, v => ∃ a vs, v = .ref a ∧ SqT W.K W.F a vs ∧ Reps W xs vs
  | .lst xs, v => ∃ a vs, v = .ref a ∧ W.F a = some (.lst vs) ∧ Reps W xs vs
  | .dic ks ds, v => ∃ a vs, v = .ref a ∧ ks.length = ds.length ∧ isDic W.K W.F a (ks.zip vs) ∧ Reps W ds vs
  | .scr ns, v => ∃ a, v = .ref a ∧ SqL W.K W.F a (ns.map V.int)
  | .obj n, v => ∃ a, W.as[n]? = some a ∧ v = .ref a
  | .own _, _ => False
  | .ty n, v => v = .ty n
  | .gl x, v => ∃ u, W.mg x = some u ∧ RelV v u
def Reps (W : Wd) : List D → List V → Prop
  | [], vs => vs = []
  | d :: ds, vs => ∃ v r, vs = v :: r ∧ Rep W d v ∧ Reps W ds r
end

/-- a later world, whatever is looked after -/
structure Wd.lf (W W' : Wd) : Prop where
  K : W'.K = W.K
  mg : W'.mg = W.mg
  as : ∃ l, W'.as = W.as ++ l
  F : Same W.F W'.F
/-- a later world -/
structure Wd.le (W W' : Wd) : Prop extends Wd.lf W W' where
  G : W'.G = W.G
theorem Wd.lf.refl (W : Wd) : W.lf W := ⟨rfl, rfl, ⟨[], by simp⟩, Same.refl _⟩
theorem Wd.lf.trans {W W1 W2 : Wd} (a : W.lf W1) (b : W1.lf W2) : W.lf W2 := by
  obtain ⟨l, hl⟩ := a.as
  obtain ⟨m, hm⟩ := b.as
  exact ⟨b.K.trans a.K, b.mg.trans a.mg, ⟨l ++ m, by rw [hm, hl, List.append_assoc]⟩, a.F.trans b.F⟩
theorem Wd.le.refl (W : Wd) : W.le W := ⟨Wd.lf.refl W, rfl⟩
theorem Wd.le.trans {W W1 W2 : Wd} (a : W.le W1) (b : W1.le W2) : W.le W2 := ⟨a.tolf.trans b.tolf, b.G.trans a.G⟩
theorem Wd.lf.at {W W' : Wd} (h : W.lf W') {n : Nat} {a : Addr} (e : W.as[n]? = some a) : W'.as[n]? = some a := by
  obtain ⟨l, hl⟩ := h.as
  rw [hl]
  have hl2 : n < W.as.length := (List.getElem?_eq_some_iff.mp e).1
  rw [List.getElem?_append_left hl2]
  exact e
theorem rd_same {H H' : Hp} {a : Addr} {u : HO} (e : Same H H') (h : Rd H a u) : Rd H' a u := by
  rcases h with h | ⟨o, h⟩
  · exact Or.inl (e a _ h)
  · exact Or.inr ⟨o, e a _ h⟩
theorem sqT_same {K : PySem.W.Frag} {H H' : Hp} {a : Addr} {xs : List V} (e : Same H H') (h : SqT K H a xs) : SqT K H' a xs := by
  rcases h with h | h
  · exact Or.inl (rd_same e h)
  · exact Or.inr h

mutual
theorem Rep.monoF {W W' : Wd} (h : W.lf W') : ∀ (d : D) (v : V), Rep W d v → Rep W' d v
  | .non, v, r => by simpa only [Rep] using r
  | .bl b, v, r => by simpa only [Rep] using r
  | .int i, v, r => by simpa only [Rep] using r
  | .str x, v, r => by simpa only [Rep] using r
  | .tup xs, v, r => by
    simp only [Rep] at r ⊢
    obtain ⟨a, vs, e, s, r⟩ := r
    exact ⟨a, vs, e, by rw [h.K]; exact sqT_same h.F s, Reps.monoF h xs vs r⟩
  | .lst xs, v, r => by
    simp only [Rep] at r ⊢
    obtain ⟨a, vs, e, s, r⟩ := r
    exact ⟨a, vs, e, h.F _ _ s, Reps.monoF h xs vs r⟩
  | .dic ks ds, v, r => by
    simp only [Rep] at r ⊢
    obtain ⟨a, vs, e, l, s, r⟩ := r
    exact ⟨a, vs, e, l, h.F _ _ s, Reps.monoF h ds vs r⟩
  | .scr ns, v, r => by
    simp only [Rep] at r ⊢
    obtain ⟨a, e, s⟩ := r
    exact ⟨a, e, by rw [h.K]; exact h.F.seq s⟩
  | .obj n, v, r => by
    simp only [Rep] at r ⊢
    obtain ⟨a, s, e⟩ := r
    exact ⟨a, h.at s, e⟩
  | .own _, v, r => by simp only [Rep] at r
  | .ty n, v, r => by simpa only [Rep] using r
  | .gl x, v, r => by
    simp only [Rep] at r ⊢
    rw [h.mg]
    exact r
theorem Reps.monoF {W W' : Wd} (h : W.lf W') : ∀ (ds : List D) (vs : List V), Reps W ds vs → Reps W' ds vs
  | [], vs, r => by simpa only [Reps] using r
  | d :: ds, vs, r => by
    simp only [Reps] at r ⊢
    obtain ⟨v, t, e, r1, r2⟩ := r
    exact ⟨v, t, e, Rep.monoF h d v r1, Reps.monoF h ds t r2⟩
end

theorem Rep.mono {W W' : Wd} (h : W.le W') (d : D) (v : V) (r : Rep W d v) : Rep W' d v := Rep.monoF h.tolf d v r
theorem Reps.mono {W W' : Wd} {ds : List D} {vs : List V} (r : Reps W ds vs) (h : W.le W') : Reps W' ds vs := Reps.monoF h.tolf ds vs r
theorem Reps.mono' {W W' : Wd} {ds : List D} {vs : List V} (r : Reps W ds vs) (h : W.lf W') : Reps W' ds vs := Reps.monoF h ds vs r
theorem Reps.nil {W : Wd} : Reps W [] [] := by simp only [Reps]
theorem Reps.cons {W : Wd} {d : D} {v : V} {ds : List D} {vs : List V} (h : Rep W d v) (t : Reps W ds vs) : Reps W (d :: ds) (v :: vs) := by
  simp only [Reps]
  exact ⟨v, vs, rfl, h, t⟩
theorem Reps.inv {W : Wd} {d : D} {ds : List D} {vs : List V} (h : Reps W (d :: ds) vs) : ∃ v r, vs = v :: r ∧ Rep W d v ∧ Reps W ds r := by simpa only [Reps] using h
theorem Reps.invN {W : Wd} {vs : List V} (h : Reps W [] vs) : vs = [] := by simpa only [Reps] using h
theorem Reps.length {W : Wd} : ∀ {ds : List D} {vs : List V}, Reps W ds vs → vs.length = ds.length
  | [], vs, h => by
    rw [h.invN]
    rfl
  | d :: ds, vs, h => by
    obtain ⟨v, r, e, _, t⟩ := h.inv
    rw [e, List.length_cons, List.length_cons, t.length]
theorem Reps.get {W : Wd} : ∀ {ds : List D} {vs : List V} {i : Nat} {d : D}, Reps W ds vs → ds[i]? = some d → ∃ v, vs[i]? = some v ∧ Rep W d v
  | [], vs, i, d, h, e => by simp at e
  | d0 :: ds, vs, 0, d, h, e => by
    obtain ⟨v, r, rfl, h1, _⟩ := h.inv
    simp at e
    subst e
    exact ⟨v, rfl, h1⟩
  | d0 :: ds, vs, i + 1, d, h, e => by
    obtain ⟨v, r, rfl, _, t⟩ := h.inv
    obtain ⟨w, h1, h2⟩ := Reps.get (i := i) (d := d) t (by simpa using e)
    exact ⟨w, by simpa using h1, h2⟩
theorem Reps.append {W : Wd} : ∀ {ds es : List D} {vs ws : List V}, Reps W ds vs → Reps W es ws → Reps W (ds ++ es) (vs ++ ws)
  | [], es, vs, ws, h, k => by rw [h.invN]; exact k
  | d :: ds, es, vs, ws, h, k => by
    obtain ⟨v, r, rfl, h1, t⟩ := h.inv
    exact Reps.cons h1 (Reps.append t k)
theorem Reps.take {W : Wd} : ∀ {ds : List D} {vs : List V} (n : Nat), Reps W ds vs → Reps W (ds.take n) (vs.take n)
  | _, _, 0, _ => by simp only [List.take_zero]; exact Reps.nil
  | [], vs, n + 1, h => by rw [h.invN]; simp only [List.take_nil]; exact Reps.nil
  | d :: ds, vs, n + 1, h => by
    obtain ⟨v, r, rfl, h1, t⟩ := h.inv
    simp only [List.take_succ_cons]
    exact Reps.cons h1 (Reps.take n t)
theorem Reps.drop {W : Wd} : ∀ {ds : List D} {vs : List V} (n : Nat), Reps W ds vs → Reps W (ds.drop n) (vs.drop n)
  | _, _, 0, h => h
  | [], vs, n + 1, h => by rw [h.invN]; simp only [List.drop_nil]; exact Reps.nil
  | d :: ds, vs, n + 1, h => by
    obtain ⟨v, r, rfl, _, t⟩ := h.inv
    simp only [List.drop_succ_cons]
    exact Reps.drop n t
theorem Reps.set {W : Wd} {d : D} {v : V} (hd : Rep W d v) : ∀ {ds : List D} {vs : List V} (i : Nat), Reps W ds vs → Reps W (ds.set i d) (vs.set i v)
  | [], vs, i, h => by rw [h.invN]; exact Reps.nil
  | d0 :: ds, vs, 0, h => by
    obtain ⟨v0, r, rfl, _, t⟩ := h.inv
    exact Reps.cons hd t
  | d0 :: ds, vs, i + 1, h => by
    obtain ⟨v0, r, rfl, h1, t⟩ := h.inv
    exact Reps.cons h1 (Reps.set hd i t)
theorem Reps.rep {W : Wd} {ds : List D} {vs : List V} (h : Reps W ds vs) : ∀ k : Nat, Reps W (List.replicate k ds).flatten (List.replicate k vs).flatten
  | 0 => Reps.nil
  | k + 1 => by
    simp only [List.replicate_succ, List.flatten_cons]
    exact h.append (Reps.rep h k)
theorem Reps.ints {W : Wd} : ∀ {ns : List Int} {vs : List V}, Reps W (ns.map D.int) vs → vs = ns.map V.int
  | [], vs, h => h.invN
  | n :: ns, vs, h => by
    obtain ⟨v, r, rfl, h1, t⟩ := h.inv
    simp only [Rep] at h1
    rw [h1, Reps.ints t]
    rfl
theorem Reps.nil_iff {W : Wd} {ds : List D} {vs : List V} (h : Reps W ds vs) : vs = [] ↔ ds = [] := by
  constructor
  · intro e
    have := h.length
    rw [e] at this
    exact List.eq_nil_of_length_eq_zero this.symm
  · intro e
    rw [e] at h
    exact h.invN

/-- what stands of a mutable object at a -/
def MoRep (W : Wd) (H : Hp) (a : Addr) : MO → Prop
  | .lst ds => ∃ vs, H a = some (.lst vs) ∧ Reps W ds vs
  | .dic ks ds => ∃ vs, ks.length = ds.length ∧ H a = some (.dK (ks.zip vs)) ∧ Reps W ds vs
  | .dct ks ds => ∃ vs, ks.length = ds.length ∧ H a = some (.dT (ks.zip vs)) ∧ Reps W ds vs
  | .ins c fs => ∃ C dx vs, W.mg c = some (.ref C) ∧ H a = some (.ins C dx ((fs.map (·.1)).zip vs)) ∧ Reps W (fs.map (·.2)) vs
  | .gone => True
theorem MoRep.monoF {W W' : Wd} {H H' : Hp} {a : Addr} (h : W.lf W') (e : H' a = H a) : ∀ {mo : MO}, MoRep W H a mo → MoRep W' H' a mo
  | .lst ds, ⟨vs, k, r⟩ => ⟨vs, e.trans k, r.mono' h⟩
  | .dic ks ds, ⟨vs, l, k, r⟩ => ⟨vs, l, e.trans k, r.mono' h⟩
  | .dct ks ds, ⟨vs, l, k, r⟩ => ⟨vs, l, e.trans k, r.mono' h⟩
  | .ins c fs, ⟨C, dx, vs, m, k, r⟩ => ⟨C, dx, vs, by rw [h.mg]; exact m, e.trans k, r.mono' h⟩
  | .gone, _ => trivial
theorem MoRep.mono {W W' : Wd} {H H' : Hp} {a : Addr} {mo : MO} (h : W.le W') (e : H' a = H a) (r : MoRep W H a mo) : MoRep W' H' a mo := MoRep.monoF h.tolf e r
def notGone : MO → Bool
  | .gone => false
  | _ => true

structure RelS (W : Wd) (st : List MO) (H : Hp) : Prop where
  F : Same W.F H
  G : Same W.G H
  len : W.as.length = st.length
  nd : W.as.Nodup
  th : ∀ a ∈ W.as, H a ≠ none
  FG : ∀ a, W.G a ≠ none → W.F a = none
  asG : ∀ a ∈ W.as, W.G a = none
  obj : ∀ (n : Nat) (a : Addr) (mo : MO), W.as[n]? = some a → st[n]? = some mo → notGone mo = true → W.F a = none ∧ W.G a = none ∧ MoRep W H a mo
structure RelE (W : Wd) (env : List Sl) (σ : L2.St) (H : Hp) : Prop where
  len : env.length = σ.length
  val : ∀ (i : Nat) (d : D), env[i]? = some (.val d) → ∃ v, σ[i]? = some (some v) ∧ Rep W d v
  own : ∀ (i : Nat) (mo : MO), env[i]? = some (.own mo) → ∃ a, σ[i]? = some (some (.ref a)) ∧ W.F a = none ∧ W.G a = none ∧ a ∉ W.as ∧ H a ≠ none ∧ MoRep W H a mo
  dist : ∀ (i j : Nat) (mi mj : MO) (a : Addr), env[i]? = some (.own mi) → env[j]? = some (.own mj) → σ[i]? = some (some (.ref a)) → σ[j]? = some (some (.ref a)) → i = j
structure Rel (W : Wd) (T : MT) (σ : L2.St) (H : Hp) : Prop where
  s : RelS W T.st H
  e : RelE W T.env σ H

/-- a value while a frame runs: a tree, or the frame's own object of a slot -/
def RepT (W : Wd) (σ : L2.St) (d : D) (v : V) : Prop := match d with
  | .own i => σ[i]? = some (some v)
  | d => Rep W d v
theorem RepT.monoF {W W' : Wd} {σ : L2.St} {d : D} {v : V} (h : W.lf W') (r : RepT W σ d v) : RepT W' σ d v := by
  cases d <;> first | exact Rep.monoF h _ _ r | exact r
theorem RepT.mono {W W' : Wd} {σ : L2.St} {d : D} {v : V} (h : W.le W') (r : RepT W σ d v) : RepT W' σ d v := RepT.monoF h.tolf r
theorem RepT.rep {W : Wd} {σ : L2.St} {d : D} {v : V} (r : RepT W σ d v) (t : isTmp d = false) : Rep W d v := by
  cases d <;> first | exact r | cases t
theorem RepT.of {W : Wd} {σ : L2.St} {d : D} {v : V} (r : Rep W d v) : RepT W σ d v := by
  cases d <;> first | exact r | (simp only [Rep] at r)

/-- what is wanted of an outcome -/
def post {α : Type} (E : XK) (W : Wd) (σ : L2.St) (o : Out α) (R : α → Wd → Hp → Prop) : Prop := match o with
  | .ok a T' => ∀ W' H', W.le W' → Rel W' T' σ H' → R a W' H'
  | .exc c fs T' => ∀ W' H' C dx vs, W.le W' → RelS W' T'.st H' → W.mg c = some (.ref C) → H' dx = some (.xd ((fs.map (·.1)).zip vs)) → Reps W' (fs.map (·.2)) vs → E (.ref C) (some dx) H'
  | .stuck => False
theorem post.le {α : Type} {E : XK} {W W1 : Wd} {σ : L2.St} {o : Out α} {R : α → Wd → Hp → Prop} (h : W.le W1) (p : post E W σ o R) : post E W1 σ o R := by
  cases o with
  | ok a T => exact fun W' H' l r => p W' H' (h.trans l) r
  | exc c fs T => exact fun W' H' C dx vs l r m => p W' H' C dx vs (h.trans l) r (by rw [← h.mg]; exact m)
  | stuck => exact p
theorem post.imp {α : Type} {E : XK} {W : Wd} {σ : L2.St} {o : Out α} {R R' : α → Wd → Hp → Prop} (p : post E W σ o R) (h : ∀ a W' H', W.le W' → R a W' H' → R' a W' H') : post E W σ o R' := by
  cases o with
  | ok a T => exact fun W' H' l r => h a W' H' l (p W' H' l r)
  | exc c fs T => exact p
  | stuck => exact p

/-- the world of a frame -/
structure In (X : Cx) (W : Wd) : Prop where
  K : W.K = X.K
  mg : W.mg = X.mg
theorem In.le {X : Cx} {W W' : Wd} (i : In X W) (h : W.le W') : In X W' := ⟨h.K.trans i.K, h.mg.trans i.mg⟩

/-- an expression's reading by its mirror -/
def tm (X : Cx) (E : XK) (m : M D) : TE := fun σ H Q => ∃ W T, In X W ∧ Rel W T σ H ∧ post E W σ (m T) fun d W' H' => ∀ v, RepT W' σ d v → Q v H'
def tt (X : Cx) (E : XK) (m : M Bool) : TT := fun σ H Q => ∃ W T, In X W ∧ Rel W T σ H ∧ post E W σ (m T) fun b W' H' => Q b H'
def RepTs (W : Wd) (σ : L2.St) (ds : List D) (vs : List V) : Prop := Paired (RepT W σ) ds vs
def ta (X : Cx) (E : XK) (m : M (List D)) : TA := fun σ H Q => ∃ W T, In X W ∧ Rel W T σ H ∧ post E W σ (m T) fun ds W' H' => ∀ vs, RepTs W' σ ds vs → Q vs H'

abbrev EV (X : Cx) (E : XK) (e : Expr) (m : M D) : Prop := PE X e (tm X E m)
abbrev BV (X : Cx) (E : XK) (e : Expr) (m : M Bool) : Prop := PT X e (tt X E m)
abbrev BW (X : Cx) (E : XK) (e : Expr) (m : M Bool) : Prop := PW X e (tt X E m)
abbrev AV (X : Cx) (E : XK) (es : List Expr) (m : M (List D)) : Prop := PA X es (ta X E m)

theorem _root_.L2.PE.imp {X : Cx} {e : Expr} {t t' : TE} (h : PE X e t) (k : ∀ σ H Q, t' σ H Q → t σ H Q) : PE X e t' := ⟨fun pins s σ H Q I q => h.run pins s σ H Q I (k σ H Q q)⟩
theorem _root_.L2.PT.imp {X : Cx} {e : Expr} {t t' : TT} (h : PT X e t) (k : ∀ σ H Q, t' σ H Q → t σ H Q) : PT X e t' := ⟨fun pins s σ H Q I q => h.run pins s σ H Q I (k σ H Q q)⟩
theorem _root_.L2.PW.imp {X : Cx} {e : Expr} {t t' : TT} (h : PW X e t) (k : ∀ σ H Q, t' σ H Q → t σ H Q) : PW X e t' := ⟨fun w pins s σ H Q I q => h.run w pins s σ H Q I (k σ H Q q)⟩
theorem _root_.L2.PA.imp {X : Cx} {es : List Expr} {t t' : TA} (h : PA X es t) (k : ∀ σ H Q, t' σ H Q → t σ H Q) : PA X es t' := ⟨fun p pins s σ H Q I q => h.run p pins s σ H Q I (k σ H Q q)⟩
theorem _root_.L2.PS.imp {X : Cx} {st : Stmt} {t t' : TS} (h : PS X st t) (k : ∀ D σ H, t' D σ H → t D σ H) : PS X st t' := ⟨fun pins s σ H D I q => h.run pins s σ H D I (k D σ H q)⟩
theorem _root_.L2.PSs.imp {X : Cx} {st : List Stmt} {t t' : TS} (h : PSs X st t) (k : ∀ D σ H, t' D σ H → t D σ H) : PSs X st t' := ⟨fun pins s σ H D I q => h.run pins s σ H D I (k D σ H q)⟩

/-- the outcome of two in a row -/
theorem post_bnd {α β : Type} {E : XK} {W : Wd} {σ : L2.St} {m : M α} {k : α → M β} {T : MT} {R : β → Wd → Hp → Prop} (p : post E W σ (bnd m k T) R) :
    post E W σ (m T) fun a W1 H1 => ∃ T1, Rel W1 T1 σ H1 ∧ post E W1 σ (k a T1) R := by
  unfold bnd at p
  cases h : m T with
  | ok a T1 =>
    rw [h] at p
    exact fun W1 H1 l r => ⟨T1, r, p.le l⟩
  | exc c fs T1 =>
    rw [h] at p
    exact p
  | stuck =>
    rw [h] at p
    exact p

section
variable {X : Cx} {E : XK} {e a b : Expr} {ma mb : M D} {pos : Pos}
/-- what follows is asked of the first, then of the rest -/
theorem tm_bnd {α : Type} {k : D → M α} {σ : L2.St} {H : Hp} {R : α → Wd → Hp → Prop} {W : Wd} {T : MT} (i : In X W) (r : Rel W T σ H) (p : post E W σ (bnd ma k T) R) :
    tm X E ma σ H fun v H1 => ∃ d W1 T1, W.le W1 ∧ In X W1 ∧ Rel W1 T1 σ H1 ∧ RepT W1 σ d v ∧ post E W1 σ (k d T1) R :=
  ⟨W, T, i, r, (post_bnd p).imp fun d W1 H1 l ⟨T1, r1, p1⟩ v hv => ⟨d, W1, T1, l, i.le l, r1, hv, p1⟩⟩
theorem post_lift {α : Type} {f : MT → Option α} {T : MT} {σ : L2.St} {W : Wd} {H : Hp} {R : α → Wd → Hp → Prop} (r : Rel W T σ H) (p : post E W σ (lift f T) R) : ∃ a, f T = some a ∧ ∀ W' H', W.le W' → Rel W' T σ H' → R a W' H' := by
  unfold lift at p
  cases h : f T with
  | some a =>
    rw [h] at p
    exact ⟨a, rfl, p⟩
  | none =>
    rw [h] at p
    exact p.elim

theorem tm.imp {m : M D} {σ : L2.St} {H : Hp} {Q Q' : VK} (h : tm X E m σ H Q) (k : ∀ v H', Q v H' → Q' v H') : tm X E m σ H Q' := by
  obtain ⟨W, T, i, r, p⟩ := h
  exact ⟨W, T, i, r, p.imp fun d W' H' _ q v hv => k v H' (q v hv)⟩
theorem tt.imp {m : M Bool} {σ : L2.St} {H : Hp} {Q Q' : Bool → Hp → Prop} (h : tt X E m σ H Q) (k : ∀ v H', Q v H' → Q' v H') : tt X E m σ H Q' := by
  obtain ⟨W, T, i, r, p⟩ := h
  exact ⟨W, T, i, r, p.imp fun d W' H' _ q => k d H' q⟩
theorem ta.imp {m : M (List D)} {σ : L2.St} {H : Hp} {Q Q' : List V → Hp → Prop} (h : ta X E m σ H Q) (k : ∀ v H', Q v H' → Q' v H') : ta X E m σ H Q' := by
  obtain ⟨W, T, i, r, p⟩ := h
  exact ⟨W, T, i, r, p.imp fun d W' H' _ q v hv => k v H' (q v hv)⟩
/-- an operator of two by its rule on values and its function on trees -/
theorem op2_run {r : R2} {f : MT → D → D → Option D} {σ : L2.St} {H : Hp} {Q : VK} (h : tm X E (op2 f ma mb) σ H Q)
    (hf : ∀ (W : Wd) (T : MT) (σ : L2.St) (H : Hp) (x y z : D) (v w : V) (Q : VK), In X W → Rel W T σ H → RepT W σ x v → RepT W σ y w → f T x y = some z → (∀ W' H', W.le W' → Rel W' T σ H' → ∀ u, RepT W' σ z u → Q u H') → r v w H Q) :
    tOp r (tm X E ma) (tm X E mb) σ H Q := by
  obtain ⟨W, T, i, r, p⟩ := h
  refine (tm_bnd i r p).imp fun v H1 q => ?_
  obtain ⟨d1, W1, T1, l1, i1, r1, v1, p1⟩ := q
  refine (tm_bnd i1 r1 p1).imp fun w H2 q => ?_
  obtain ⟨d2, W2, T2, l2, i2, r2, v2, p2⟩ := q
  obtain ⟨z, e, k⟩ := post_lift r2 p2
  exact hf W2 T2 σ H2 d1 d2 z v w Q i2 r2 (v1.mono l2) v2 e k
theorem ev_op2 {op : Operator} {r : R2} {f : MT → D → D → Option D} (ho : OpR X (binaryOp op) r) (ha : EV X E a ma) (hb : EV X E b mb)
    (hf : ∀ (W : Wd) (T : MT) (σ : L2.St) (H : Hp) (x y z : D) (v w : V) (Q : VK), In X W → Rel W T σ H → RepT W σ x v → RepT W σ y w → f T x y = some z → (∀ W' H', W.le W' → Rel W' T σ H' → ∀ u, RepT W' σ z u → Q u H') → r v w H Q) :
    EV X E (.BinOp a op b pos) (op2 f ma mb) := (pe_op ho ha hb).imp fun σ H Q h => op2_run h hf
end
end FL

set_option Elab.async false
set_option linter.all false
set_option maxRecDepth 100000
set_option maxHeartbeats 4000000
/-! FL2: what a relation keeps through the steps of a machine. -/
namespace FL
open PySem PySem.Spec PyProof.Rows L2

theorem same_new {H : Hp} {p : Addr} {o : HO} (h : H p = none) : Same H (upd H p o) := fun b x e => by
  rw [upd_ne (ne_of_none e h)]
  exact e
theorem same_at {H H' : Hp} (s : Same H H') {a : Addr} (h : H a ≠ none) : H' a = H a := by
  cases q : H a with
  | none => exact absurd q h
  | some o => exact s a o q

section
variable {W W' : Wd} {T : MT} {σ : L2.St} {H H' : Hp}
theorem RelS.ext {st : List MO} (r : RelS W st H) (s : Same H H') : RelS W st H' where
  F := r.F.trans s
  G := r.G.trans s
  len := r.len
  nd := r.nd
  th := fun a h => by
    rw [same_at s (r.th a h)]
    exact r.th a h
  FG := r.FG
  asG := r.asG
  obj := fun n a mo ha hm hg => by
    obtain ⟨h1, h2, h3⟩ := r.obj n a mo ha hm hg
    exact ⟨h1, h2, h3.mono (Wd.le.refl W) (same_at s (r.th a (List.mem_of_getElem? ha)))⟩
theorem RelE.ext {env : List Sl} (r : RelE W env σ H) (s : Same H H') : RelE W env σ H' where
  len := r.len
  val := r.val
  own := fun i mo h => by
    obtain ⟨a, h1, h2, h3, h4, h5, h6⟩ := r.own i mo h
    exact ⟨a, h1, h2, h3, h4, by rw [same_at s h5]; exact h5, h6.mono (Wd.le.refl W) (same_at s h5)⟩
  dist := r.dist
theorem Rel.ext (r : Rel W T σ H) (s : Same H H') : Rel W T σ H' := ⟨r.s.ext s, r.e.ext s⟩

/-- a new object that nobody changes -/
def Wd.put (W : Wd) (p : Addr) (o : HO) : Wd := { W with F := upd W.F p o }
theorem RelS.fF {st : List MO} (r : RelS W st H) {p : Addr} (h : H p = none) : W.F p = none := r.F.free h
theorem RelS.fG {st : List MO} (r : RelS W st H) {p : Addr} (h : H p = none) : W.G p = none := r.G.free h
theorem put_le {p : Addr} {o : HO} (h : W.F p = none) : W.le (W.put p o) := ⟨⟨rfl, rfl, ⟨[], (List.append_nil _).symm⟩, same_new h⟩, rfl⟩
theorem RelS.put {st : List MO} {p : Addr} {o : HO} (r : RelS W st H) (h : H p = none) : RelS (W.put p o) st (upd H p o) := by
  have le := put_le (o := o) (r.fF h)
  have x := r.ext (same_new (o := o) h)
  refine ⟨fun b u e => ?_, x.G, r.len, r.nd, x.th, fun a ha => ?_, r.asG, fun n a mo ha hm hg => ?_⟩
  · by_cases hb : b = p
    · subst hb
      rw [show (W.put b o).F b = some o from upd_same] at e
      rw [upd_same]
      exact e
    · rw [show (W.put p o).F b = W.F b from upd_ne hb] at e
      rw [upd_ne hb]
      exact r.F b u e
  · have hne : a ≠ p := fun z => ha (by rw [z]; exact r.fG h)
    rw [show (W.put p o).F a = W.F a from upd_ne hne]
    exact r.FG a ha
  · obtain ⟨h1, h2, h3⟩ := x.obj n a mo ha hm hg
    have hne : a ≠ p := fun z => r.th a (List.mem_of_getElem? ha) (by rw [z]; exact h)
    exact ⟨by rw [show (W.put p o).F a = W.F a from upd_ne hne]; exact h1, h2, h3.mono le rfl⟩
theorem RelE.put {env : List Sl} {p : Addr} {o : HO} (r : RelE W env σ H) (h : H p = none) (hF : W.F p = none) : RelE (W.put p o) env σ (upd H p o) := by
  have le := put_le (o := o) hF
  have x := r.ext (same_new (o := o) h)
  refine ⟨r.len, fun i d e => ?_, fun i mo e => ?_, r.dist⟩
  · obtain ⟨v, h1, h2⟩ := r.val i d e
    exact ⟨v, h1, h2.mono le⟩
  · obtain ⟨a, h1, h2, h3, h4, h5, h6⟩ := x.own i mo e
    obtain ⟨a', h1', _, _, _, h5', _⟩ := r.own i mo e
    have ea : a = a' := V.ref.inj (Option.some.inj (Option.some.inj (h1.symm.trans h1')))
    subst ea
    have hne : a ≠ p := fun z => h5' (by rw [z]; exact h)
    exact ⟨a, h1, by rw [show (W.put p o).F a = W.F a from upd_ne hne]; exact h2, h3, h4, h5, h6.mono le rfl⟩
theorem Rel.put {p : Addr} {o : HO} (r : Rel W T σ H) (h : H p = none) : Rel (W.put p o) T σ (upd H p o) := ⟨r.s.put h, r.e.put h (r.s.fF h)⟩
theorem Rel.putLe {p : Addr} {o : HO} (r : Rel W T σ H) (h : H p = none) : W.le (W.put p o) := put_le (r.s.fF h)
theorem put_F {p : Addr} {o : HO} : (W.put p o).F p = some o := upd_same

/-- the reads of a slot -/
theorem Rel.var (r : Rel W T σ H) {i : Nat} {d : D} {T' : MT} (h : mVar i T = .ok d T') : T' = T ∧ ∃ v, σ[i]? = some (some v) ∧ RepT W σ d v := by
  unfold mVar at h
  cases e : T.env[i]? with
  | none => rw [e] at h; cases h
  | some s =>
    rw [e] at h
    cases s with
    | emp => cases h
    | val d' =>
      cases h
      obtain ⟨v, h1, h2⟩ := r.e.val i _ e
      exact ⟨rfl, v, h1, .of h2⟩
    | own o =>
      cases h
      obtain ⟨a, h1, _⟩ := r.e.own i o e
      exact ⟨rfl, _, h1, h1⟩

/-- what a view says -/
theorem Rel.vLst (r : Rel W T σ H) {d : D} {v : V} {xs : List D} (h : RepT W σ d v) (e : vw T d = .lst xs) : ∃ a vs, v = .ref a ∧ H a = some (.lst vs) ∧ Reps W xs vs := by
  cases d <;> simp only [vw] at e <;> try (cases e)
  · have h : Rep W (.lst _) v := h
    simp only [Rep] at h
    obtain ⟨a, vs, rfl, h1, h2⟩ := h
    exact ⟨a, vs, rfl, r.s.F _ _ h1, h2⟩
  · rename_i n
    have h : Rep W (.obj n) v := h
    simp only [Rep] at h
    obtain ⟨a, h1, rfl⟩ := h
    cases q : T.st[n]? with
    | none => rw [q] at e; cases e
    | some o =>
      rw [q] at e
      cases o <;> simp only [moV] at e <;> try (cases e)
      obtain ⟨_, _, vs, h2, h3⟩ := r.s.obj n a _ h1 q rfl
      exact ⟨a, vs, rfl, h2, h3⟩
  · rename_i i
    have h : σ[i]? = some (some v) := h
    cases q : T.env[i]? with
    | none => rw [q] at e; cases e
    | some s =>
      rw [q] at e
      cases s <;> try (cases e)
      rename_i o
      cases o <;> simp only [moV] at e <;> try (cases e)
      obtain ⟨a, h1, _, _, _, _, vs, h2, h3⟩ := r.e.own i _ q
      rw [h] at h1
      cases h1
      exact ⟨a, vs, rfl, h2, h3⟩
theorem Rel.vTup (r : Rel W T σ H) {d : D} {v : V} {xs : List D} (h : RepT W σ d v) (e : vw T d = .tup xs) : ∃ a vs, v = .ref a ∧ SqT W.K H a vs ∧ Reps W xs vs := by
  cases d <;> simp only [vw] at e <;> try (cases e)
  · have h : Rep W (.tup _) v := h
    simp only [Rep] at h
    obtain ⟨a, vs, rfl, h1, h2⟩ := h
    exact ⟨a, vs, rfl, sqT_same r.s.F h1, h2⟩
  · rename_i n
    cases q : T.st[n]? with
    | none => rw [q] at e; cases e
    | some o =>
      rw [q] at e
      cases o <;> simp only [moV] at e <;> cases e
  · rename_i i
    cases q : T.env[i]? with
    | none => rw [q] at e; cases e
    | some s =>
      rw [q] at e
      cases s <;> try (cases e)
      rename_i o
      cases o <;> simp only [moV] at e <;> cases e

theorem rInt {i : Int} {v : V} (h : RepT W σ (.int i) v) : v = .int i := by
  have h : Rep W (.int i) v := h
  simpa only [Rep] using h
theorem rBl {b : Bool} {v : V} (h : RepT W σ (.bl b) v) : v = .bl b := by
  have h : Rep W (.bl b) v := h
  simpa only [Rep] using h
theorem rStr {x : Str} {v : V} (h : RepT W σ (.str x) v) : v = .str x := by
  have h : Rep W (.str x) v := h
  simpa only [Rep] using h
theorem rNon {v : V} (h : RepT W σ .non v) : v = .non := by
  have h : Rep W .non v := h
  simpa only [Rep] using h
theorem rTy {n : String} {v : V} (h : RepT W σ (.ty n) v) : v = .ty n := by
  have h : Rep W (.ty n) v := h
  simpa only [Rep] using h
theorem mkInt {i : Int} : RepT W σ (.int i) (.int i) := by
  show Rep W (.int i) (.int i)
  simp only [Rep]
theorem mkBl {b : Bool} : RepT W σ (.bl b) (.bl b) := by
  show Rep W (.bl b) (.bl b)
  simp only [Rep]
theorem mkStr {x : Str} : RepT W σ (.str x) (.str x) := by
  show Rep W (.str x) (.str x)
  simp only [Rep]
theorem mkNon : RepT W σ .non .non := by
  show Rep W .non .non
  simp only [Rep]
theorem mkTup {xs : List D} {a : Addr} {vs : List V} (h : SqT W.K W.F a vs) (r : Reps W xs vs) : RepT W σ (.tup xs) (.ref a) := by
  show Rep W (.tup xs) (.ref a)
  simp only [Rep]
  exact ⟨a, vs, rfl, h, r⟩
theorem mkLst {xs : List D} {a : Addr} {vs : List V} (h : W.F a = some (.lst vs)) (r : Reps W xs vs) : RepT W σ (.lst xs) (.ref a) := by
  show Rep W (.lst xs) (.ref a)
  simp only [Rep]
  exact ⟨a, vs, rfl, h, r⟩
/-- a new tuple, a new list that nobody changes -/
theorem Rel.newTup (r : Rel W T σ H) {xs : List D} {vs : List V} (h : Reps W xs vs) {Q : VK} (q : ∀ W' H', W.le W' → Rel W' T σ H' → ∀ u, RepT W' σ (.tup xs) u → Q u H') (p : Addr) (hp : H p = none) : Q (.ref p) (upd H p (.tup vs)) :=
  q _ _ (r.putLe hp) (r.put hp) _ (mkTup (.of put_F) (h.mono (r.putLe hp)))
theorem Rel.newLst (r : Rel W T σ H) {xs : List D} {vs : List V} (h : Reps W xs vs) {Q : VK} (q : ∀ W' H', W.le W' → Rel W' T σ H' → ∀ u, RepT W' σ (.lst xs) u → Q u H') (p : Addr) (hp : H p = none) : Q (.ref p) (upd H p (.lst vs)) :=
  q _ _ (r.putLe hp) (r.put hp) _ (mkLst put_F (h.mono (r.putLe hp)))
end
end FL

set_option Elab.async false
set_option linter.all false
set_option maxRecDepth 100000
set_option maxHeartbeats 4000000
set_option exponentiation.threshold 20000
/-! FL3: names, constants, operators, comparisons, tests. -/
namespace FL
open PySem PySem.Spec PyProof.Rows L2

theorem sz_line {n : Nat} (h : n ≤ sz) : n ≤ sizeLine := Nat.le_trans h (by rw [sizeLine_eq]; decide)
theorem small_lt {i : Int} (h : small i = true) : i.natAbs < 2 ^ 8000 := of_decide_eq_true h
theorem lim_log {n : Nat} (h : n < 2 ^ 8000) : n.log2 < 8000 := PySem.Flt.log2_lt_of (by decide) h

theorem vw_tup_eq {T : MT} {d : D} {xs : List D} (h : vw T d = .tup xs) : d = .tup xs := by
  cases d <;> simp only [vw] at h <;> try (cases h)
  · rfl
  · split at h
    · rename_i o _
      cases o <;> cases h
    · cases h
  · split at h
    · rename_i o _
      cases o <;> cases h
    · cases h
section
variable {X : Cx} {E : XK} {e a b : Expr} {ma mb : M D} {pos : Pos}

/-! ### names, constants -/
theorem ev_var (i : Nat) {x : Str} {p : Pos} (h : PE X (.Name x p) (tVar i)) : EV X E (.Name x p) (mVar i) := h.imp fun σ H Q q => by
  obtain ⟨W, T, iw, r, p⟩ := q
  cases h : mVar i T with
  | ok d T' =>
    obtain ⟨rfl, v, h1, h2⟩ := r.var h
    rw [h] at p
    exact ⟨v, h1, p W H (Wd.le.refl W) r v h2⟩
  | exc c fs T' =>
    unfold mVar at h
    split at h <;> cases h
  | stuck =>
    rw [h] at p
    exact p.elim
theorem ev_con {t : TE} {d : D} (h : PE X e t) (k : ∀ W σ H Q, In X W → (∀ v, RepT W σ d v → Q v H) → t σ H Q) : EV X E e (mC d) := h.imp fun σ H Q q => by
  obtain ⟨W, T, iw, r, p⟩ := q
  exact k W σ H Q iw (p W H (Wd.le.refl W) r)
theorem ev_int {i j pos} : EV X E (.Constant (.int i) j pos) (mC (.int i)) := ev_con pe_int fun W σ H Q _ q => q _ mkInt
theorem ev_bl {b j pos} : EV X E (.Constant (.bool b) j pos) (mC (.bl b)) := ev_con pe_bl fun W σ H Q _ q => q _ mkBl
theorem ev_non {j pos} : EV X E (.Constant .none j pos) (mC .non) := ev_con pe_non fun W σ H Q _ q => q _ mkNon
theorem ev_str {x j pos} : EV X E (.Constant (.str x) j pos) (mC (.str x)) := ev_con pe_str fun W σ H Q _ q => q _ mkStr
/-- a module's constant: an int, a text -/
theorem ev_gint {x : Str} {i : Int} {t : Tok} {p : Pos} (hg : Gl X x) (hm : X.mg x = some (.int i t)) (hd : (x == ("__debug__" : Str)) = false := by decide) : EV X E (.Name x p) (mC (.int i)) :=
  ev_con (pe_glob hg hm (v := .int i) ⟨_, rfl⟩ hd) fun W σ H Q _ q => q _ mkInt
theorem ev_gstr {x : Str} {i : Str} {t : Tok} {p : Pos} (hg : Gl X x) (hm : X.mg x = some (.str i t)) (hd : (x == ("__debug__" : Str)) = false := by decide) : EV X E (.Name x p) (mC (.str i)) :=
  ev_con (pe_glob hg hm (v := .str i) ⟨_, rfl⟩ hd) fun W σ H Q _ q => q _ mkStr
/-- a module's name as a value: a def, a class, a tuple of the top -/
theorem ev_gl {x : Str} {v : V} {u : Value} {p : Pos} (hg : Gl X x) (hm : X.mg x = some u) (r : RelV v u) (hd : (x == ("__debug__" : Str)) = false := by decide) : EV X E (.Name x p) (mC (.gl x)) :=
  ev_con (pe_glob hg hm r hd) fun W σ H Q iw q => q _ (by
    show Rep W (.gl x) v
    simp only [Rep]
    exact ⟨u, by rw [iw.mg]; exact hm, r⟩)
/-- a tuple of the top as its things -/
theorem ev_gtup {x : Str} {a : Addr} {vs : List V} {ds : List D} {p : Pos} (hg : Gl X x) (hm : X.mg x = some (.ref a)) (hs : ∀ H, SqT X.K H a vs) (hr : ∀ W, In X W → Reps W ds vs) (hd : (x == ("__debug__" : Str)) = false := by decide) : EV X E (.Name x p) (mC (.tup ds)) :=
  ev_con (pe_glob hg hm (v := .ref a) rfl hd) fun W σ H Q iw q => q _ (mkTup (by rw [iw.K]; exact hs _) (hr W iw))

/-! ### operators of ints, texts, lists, tuples -/
theorem op1_run {r : V → Hp → VK → Prop} {f : MT → D → Option D} {σ : L2.St} {H : Hp} {Q : VK} (h : tm X E (op1 f ma) σ H Q)
    (hf : ∀ (W : Wd) (T : MT) (σ : L2.St) (H : Hp) (x z : D) (v : V) (Q : VK), In X W → Rel W T σ H → RepT W σ x v → f T x = some z → (∀ W' H', W.le W' → Rel W' T σ H' → ∀ u, RepT W' σ z u → Q u H') → r v H Q) :
    tUn r (tm X E ma) σ H Q := by
  obtain ⟨W, T, i, r, p⟩ := h
  refine (tm_bnd i r p).imp fun v H1 q => ?_
  obtain ⟨d1, W1, T1, l1, i1, r1, v1, p1⟩ := q
  obtain ⟨z, e, k⟩ := post_lift r1 p1
  exact hf W1 T1 σ H1 d1 z v Q i1 r1 v1 e k
theorem ev_neg (ha : EV X E a ma) : EV X E (.UnaryOp .USub a pos) (op1 opNeg ma) := (pe_un un_neg ha).imp fun σ H Q h => op1_run h fun W T σ H x z v Q i r hx e k => by
  cases x <;> simp only [opNeg] at e <;> cases e
  rw [rInt hx]
  exact ⟨_, rfl, k W H (Wd.le.refl W) r _ mkInt⟩
theorem ev_sub (ha : EV X E a ma) (hb : EV X E b mb) : EV X E (.BinOp a .Sub b pos) (op2 opSub ma mb) := ev_op2 op_sub ha hb fun W T σ H x y z v w Q i r hx hy e k => by
  cases x <;> cases y <;> simp only [opSub] at e <;> cases e
  rw [rInt hx, rInt hy]
  exact ⟨_, _, rfl, rfl, k W H (Wd.le.refl W) r _ mkInt⟩
theorem opAdd_seq {T : MT} {x y z : D} (h : opAdd T x y = some z) : (∃ i j, x = .int i ∧ y = .int j ∧ z = .int (i + j)) ∨ (∃ i j, x = .str i ∧ y = .str j ∧ i.length + j.length ≤ sz ∧ z = .str (i ++ j)) ∨
    (∃ xs ys, vw T x = .tup xs ∧ vw T y = .tup ys ∧ xs.length + ys.length ≤ sz ∧ z = .tup (xs ++ ys)) ∨ (∃ xs ys, vw T x = .lst xs ∧ vw T y = .lst ys ∧ xs.length + ys.length ≤ sz ∧ z = .lst (xs ++ ys)) := by
  unfold opAdd at h
  split at h
  · cases h
    exact .inl ⟨_, _, rfl, rfl, rfl⟩
  · split at h
    · cases h
      exact .inr (.inl ⟨_, _, rfl, rfl, by assumption, rfl⟩)
    · cases h
  · split at h
    · split at h
      · cases h
        exact .inr (.inr (.inl ⟨_, _, by assumption, by assumption, by assumption, rfl⟩))
      · cases h
    · split at h
      · cases h
        exact .inr (.inr (.inr ⟨_, _, by assumption, by assumption, by assumption, rfl⟩))
      · cases h
    · cases h
theorem ev_add (ha : EV X E a ma) (hb : EV X E b mb) : EV X E (.BinOp a .Add b pos) (op2 opAdd ma mb) := ev_op2 (op_add.or (op_add_str.or (op_catA.or op_cat))) ha hb fun W T σ H x y z v w Q i r hx hy e k => by
  rcases opAdd_seq e with ⟨i', j, rfl, rfl, rfl⟩ | ⟨i', j, rfl, rfl, hz, rfl⟩ | ⟨xs, ys, h1, h2, hz, rfl⟩ | ⟨xs, ys, h1, h2, hz, rfl⟩
  · rw [rInt hx, rInt hy]
    exact .inl ⟨_, _, rfl, rfl, k W H (Wd.le.refl W) r _ mkInt⟩
  · rw [rStr hx, rStr hy]
    exact .inr (.inl ⟨_, _, rfl, rfl, sz_line hz, k W H (Wd.le.refl W) r _ mkStr⟩)
  · obtain ⟨a1, vs, rfl, s1, q1⟩ := r.vTup hx h1
    obtain ⟨a2, ws, rfl, s2, q2⟩ := r.vTup hy h2
    rw [i.K] at s1 s2
    have hc := q1.append q2
    have s1' := r.vTup hx h1
    refine .inr (.inr (.inl ⟨a1, a2, vs, ws, rfl, rfl, s1, s2, by rw [q1.length, q2.length]; exact sz_line hz, fun hn => ?_, fun _ hn => ?_, fun _ _ p hp => r.newTup hc k p hp⟩))
    · obtain rfl := q1.nil_iff.mp hn
      rw [vw_tup_eq h2] at hy
      exact k W H (Wd.le.refl W) r _ hy
    · obtain rfl := q2.nil_iff.mp hn
      rw [List.append_nil] at k
      rw [vw_tup_eq h1] at hx
      exact k W H (Wd.le.refl W) r _ hx
  · obtain ⟨a1, vs, rfl, s1, q1⟩ := r.vLst hx h1
    obtain ⟨a2, ws, rfl, s2, q2⟩ := r.vLst hy h2
    exact .inr (.inr (.inr ⟨a1, a2, vs, ws, rfl, rfl, s1, s2, by rw [q1.length, q2.length]; exact sz_line hz, fun p hp => r.newLst (q1.append q2) k p hp⟩))

theorem ev_pow (ha : EV X E a ma) (hb : EV X E b mb) : EV X E (.BinOp a .Pow b pos) (op2 opPow ma mb) := ev_op2 op_pow ha hb fun W T σ H x y z v w Q i r hx hy e k => by
  cases x <;> cases y <;> simp only [opPow] at e <;> try (cases e)
  rename_i i' j
  by_cases h : 0 ≤ j ∧ j ≤ 100 ∧ i'.natAbs < 2 ^ 64
  · rw [if_pos h] at e
    cases e
    rw [rInt hx, rInt hy]
    exact ⟨_, _, rfl, rfl, ⟨h.1, by omega, h.2.2⟩, k W H (Wd.le.refl W) r _ mkInt⟩
  · rw [if_neg h] at e
    cases e
theorem ev_mod (ha : EV X E a ma) (hb : EV X E b mb) : EV X E (.BinOp a .Mod b pos) (op2 opMod ma mb) := ev_op2 op_modN ha hb fun W T σ H x y z v w Q i r hx hy e k => by
  cases x <;> cases y <;> simp only [opMod] at e <;> try (cases e)
  rename_i i' j
  by_cases h : (j != 0) = true
  · rw [if_pos h] at e
    cases e
    rw [rInt hx, rInt hy]
    exact ⟨_, _, rfl, rfl, by simpa using h, k W H (Wd.le.refl W) r _ mkInt⟩
  · rw [if_neg h] at e
    cases e
theorem op_fdivZ : OpR X (binaryOp .FloorDiv) (rI (fun _ j => j ≠ 0 ∧ j.natAbs.log2 < 9000) fun i j => .int (i.fdiv j)) := opI fun i j _ _ _ _ _ hc q => floordiv_int hc.1 q (.inl (PyProof.noPylong_of_log2 hc.2))
theorem ev_fdiv (ha : EV X E a ma) (hb : EV X E b mb) : EV X E (.BinOp a .FloorDiv b pos) (op2 opFdiv ma mb) := ev_op2 op_fdivZ ha hb fun W T σ H x y z v w Q i r hx hy e k => by
  cases x <;> cases y <;> simp only [opFdiv] at e <;> try (cases e)
  rename_i i' j
  by_cases h : (small j && j != 0) = true
  · rw [if_pos h] at e
    cases e
    rw [Bool.and_eq_true] at h
    rw [rInt hx, rInt hy]
    exact ⟨_, _, rfl, rfl, ⟨by simpa using h.2, by have := lim_log (small_lt h.1); omega⟩, k W H (Wd.le.refl W) r _ mkInt⟩
  · rw [if_neg h] at e
    cases e
end
end FL

set_option Elab.async false
set_option linter.all false
set_option maxRecDepth 100000
set_option maxHeartbeats 4000000
set_option exponentiation.threshold 20000
/-! FL4: comparisons, tests, and | or | not. -/
namespace FL
open PySem PySem.Spec PyProof.Rows L2

/-- a comparison's rule on values does what its function on trees says -/
def CmpOk (X : Cx) (r : R2) (f : Cmp) : Prop := ∀ (W : Wd) (T : MT) (σ : L2.St) (H : Hp) (x y : D) (b : Bool) (v w : V) (Q : VK), In X W → Rel W T σ H → RepT W σ x v → RepT W σ y w → f T x y = some b → Q (.bl b) H → r v w H Q

section
variable {X : Cx} {E : XK} {e a b c : Expr} {ma mb mc : M D} {pos : Pos} {r r' : R2} {f g : Cmp}
theorem ev_cmp {op : CmpOp} (ho : OpR X (compareOp op) r) (hf : CmpOk X r f) (ha : EV X E a ma) (hb : EV X E b mb) (hm : behindInMarks op b = false) : EV X E (.Compare a [op] [b] pos) (cmpV f ma mb) :=
  (pe_cmpR ho ha hb hm).imp fun σ H Q h => op2_run h fun W T σ H x y z v w Q i rl hx hy e k => by
    cases q : f T x y with
    | none => rw [q] at e; cases e
    | some c =>
      rw [q] at e
      cases e
      exact hf W T σ H x y c v w Q i rl hx hy q (k W H (Wd.le.refl W) rl _ mkBl)
theorem post_true {α : Type} {W : Wd} {σ : L2.St} {T : MT} {a : α} {R : α → Wd → Hp → Prop} {H : Hp} (r : Rel W T σ H) (p : post E W σ (.ok a T) R) : R a W H := p W H (Wd.le.refl W) r
theorem bv_cmp {op : CmpOp} (ho : OpR X (compareOp op) r) (hf : CmpOk X r f) (ha : EV X E a ma) (hb : EV X E b mb) (hm : behindInMarks op b = false) : BV X E (.Compare a [op] [b] pos) (cmpB f ma mb) :=
  (pt_cmpR ho ha hb hm).imp fun σ H Q h => by
    obtain ⟨W, T, i, r, p⟩ := h
    refine (tm_bnd i r p).imp fun v H1 q => ?_
    obtain ⟨d1, W1, T1, l1, i1, r1, v1, p1⟩ := q
    refine (tm_bnd i1 r1 p1).imp fun w H2 q => ?_
    obtain ⟨d2, W2, T2, l2, i2, r2, v2, p2⟩ := q
    obtain ⟨z, e, k⟩ := post_lift r2 p2
    exact hf W2 T2 σ H2 d1 d2 z v w _ i2 r2 (v1.mono l2) v2 e ⟨z, rfl, k W2 H2 (Wd.le.refl _) r2⟩
theorem chain_run {Q : VK} {σ : L2.St} {H : Hp} (hf : CmpOk X r f) (hg : CmpOk X r' g) {W : Wd} {T : MT} (i : In X W) (rl : Rel W T σ H) {α : Type} {k2 : Bool → Option α} {R : α → Wd → Hp → Prop} {m : M α}
    (hm : m = bnd ma fun x => bnd mb fun y => bnd (lift fun T => f T x y) fun k => if k then bnd mc fun z => lift fun T => (g T y z).bind k2 else lift fun _ => k2 false) (p : post E W σ (m T) R)
    (hQ : ∀ c z W' H', k2 c = some z → R z W' H' → Q (.bl c) H') : tChain r r' (tm X E ma) (tm X E mb) (tm X E mc) σ H Q := by
  subst hm
  refine (tm_bnd i rl p).imp fun v H1 q => ?_
  obtain ⟨d1, W1, T1, l1, i1, r1, v1, p1⟩ := q
  refine (tm_bnd i1 r1 p1).imp fun w H2 q => ?_
  obtain ⟨d2, W2, T2, l2, i2, r2, v2, p2⟩ := q
  have p3 := post_bnd p2
  obtain ⟨z, e, k⟩ := post_lift r2 p3
  obtain ⟨T3, r3, p4⟩ := k W2 H2 (Wd.le.refl _) r2
  refine hf W2 T2 σ H2 d1 d2 z v w _ i2 r2 (v1.mono l2) v2 e ⟨z, rfl, ?_⟩
  cases z with
  | true =>
    rw [if_pos rfl]
    refine (tm_bnd i2 r3 p4).imp fun u H3 q => ?_
    obtain ⟨d3, W3, T3', l3, i3, r3', v3, p5⟩ := q
    obtain ⟨z3, e3, k3⟩ := post_lift r3' p5
    cases q : g T3' d2 d3 with
    | none => rw [q] at e3; cases e3
    | some c =>
      rw [q] at e3
      exact hg W3 T3' σ H3 d2 d3 c w u Q i3 r3' (v2.mono l3) v3 q (hQ c z3 W3 H3 e3 (k3 W3 H3 (Wd.le.refl _) r3'))
  | false =>
    rw [if_neg Bool.false_ne_true]
    have p4' : post E W2 σ ((lift fun _ => k2 false) T3) R := p4
    obtain ⟨z3, e3, k3⟩ := post_lift r3 p4'
    exact hQ false z3 W2 H2 e3 (k3 W2 H2 (Wd.le.refl _) r3)
theorem ret_lift {α : Type} {a : α} : (ret a : M α) = lift fun _ => some a := rfl
theorem ev_chain {op op' : CmpOp} (ho : OpR X (compareOp op) r) (ho' : OpR X (compareOp op') r') (hf : CmpOk X r f) (hg : CmpOk X r' g) (ha : EV X E a ma) (hb : EV X E b mb) (hc : EV X E c mc)
    (hm : lastMarks [op, op'] [b, c] = false := by with_unfolding_all rfl) : EV X E (.Compare a [op, op'] [b, c] pos) (chainV f g ma mb mc) :=
  (pe_chain ho ho' ha hb hc hm).imp fun σ H Q h => by
    obtain ⟨W, T, i, rl, p⟩ := h
    refine chain_run hf hg i rl (k2 := fun b => some (D.bl b)) (m := chainV f g ma mb mc) ?_ p fun c z W' H' e k => ?_
    · unfold chainV
      simp only [Option.map_eq_bind, ret_lift]
      rfl
    · cases e
      exact k _ mkBl
theorem bv_chain {op op' : CmpOp} (ho : OpR X (compareOp op) r) (ho' : OpR X (compareOp op') r') (hf : CmpOk X r f) (hg : CmpOk X r' g) (ha : EV X E a ma) (hb : EV X E b mb) (hc : EV X E c mc)
    (hm : lastMarks [op, op'] [b, c] = false := by with_unfolding_all rfl) : BV X E (.Compare a [op, op'] [b, c] pos) (chainB f g ma mb mc) :=
  (pt_chain ho ho' ha hb hc hm).imp fun σ H Q h => by
    obtain ⟨W, T, i, rl, p⟩ := h
    refine chain_run hf hg i rl (k2 := fun b => some b) (m := chainB f g ma mb mc) ?_ p fun c z W' H' e k => ?_
    · unfold chainB
      have e0 : ∀ o : Option Bool, (o.bind fun b => some b) = o := fun o => by cases o <;> rfl
      simp only [ret_lift, e0]
    · cases e
      exact ⟨c, rfl, k⟩

/-! ### the rules -/
theorem c_int {p : Int → Int → Bool} {f : Cmp} (hf : ∀ T x y b, f T x y = some b → ∃ i j, x = .int i ∧ y = .int j ∧ b = p i j) : CmpOk X (rI0 fun i j => .bl (p i j)) f := fun W T σ H x y b v w Q i r hx hy e q => by
  obtain ⟨i', j, rfl, rfl, rfl⟩ := hf T x y b e
  rw [rInt hx, rInt hy]
  exact ⟨_, _, rfl, rfl, q⟩
theorem c_lt : CmpOk X (rI0 fun i j => .bl (decide (i < j))) opLt := c_int fun T x y b h => by
  cases x <;> cases y <;> simp only [opLt] at h <;> cases h
  exact ⟨_, _, rfl, rfl, rfl⟩
theorem c_le : CmpOk X (rI0 fun i j => .bl (decide (i ≤ j))) opLe := c_int fun T x y b h => by
  cases x <;> cases y <;> simp only [opLe] at h <;> cases h
  exact ⟨_, _, rfl, rfl, rfl⟩
theorem c_gt : CmpOk X (rI0 fun i j => .bl (decide (j < i))) opGt := c_int fun T x y b h => by
  cases x <;> cases y <;> simp only [opGt] at h <;> cases h
  exact ⟨_, _, rfl, rfl, rfl⟩
theorem c_ge : CmpOk X (rI0 fun i j => .bl (decide (j ≤ i))) opGe := c_int fun T x y b h => by
  cases x <;> cases y <;> simp only [opGe] at h <;> cases h
  exact ⟨_, _, rfl, rfl, rfl⟩
end

/-! ### data -/
section
variable {W : Wd} {T : MT} {σ : L2.St} {H : Hp}
mutual
theorem dp_of (hF : Same W.F H) : ∀ (d : D) (v : V) (p : PyData), Rep W d v → toP d = some p → Dp W.K H v p
  | .non, v, p, h, e => by
    simp only [Rep] at h
    simp only [toP] at e
    cases e
    rw [h]
    exact .non
  | .bl b, v, p, h, e => by
    simp only [Rep] at h
    simp only [toP] at e
    cases e
    rw [h]
    exact .bl b
  | .int b, v, p, h, e => by
    simp only [Rep] at h
    simp only [toP] at e
    cases e
    rw [h]
    exact .int b
  | .str b, v, p, h, e => by
    simp only [Rep] at h
    simp only [toP] at e
    cases e
    rw [h]
    exact .str b
  | .tup xs, v, p, h, e => by
    simp only [Rep] at h
    simp only [toP] at e
    obtain ⟨a, vs, rfl, s, r⟩ := h
    cases q : toPs xs with
    | none => rw [q] at e; cases e
    | some ps =>
      rw [q] at e
      cases e
      exact .tup (sqT_same hF s) (dps_of hF xs vs ps r q)
  | .lst xs, v, p, h, e => by
    simp only [Rep] at h
    simp only [toP] at e
    obtain ⟨a, vs, rfl, s, r⟩ := h
    cases q : toPs xs with
    | none => rw [q] at e; cases e
    | some ps =>
      rw [q] at e
      cases e
      exact .lst (SqL.of (hF _ _ s)) (dps_of hF xs vs ps r q)
  | .dic ks vs, v, p, h, e => by simp only [toP] at e; cases e
  | .scr ns, v, p, h, e => by simp only [toP] at e; cases e
  | .obj n, v, p, h, e => by simp only [toP] at e; cases e
  | .own i, v, p, h, e => by simp only [toP] at e; cases e
  | .ty n, v, p, h, e => by simp only [toP] at e; cases e
  | .gl x, v, p, h, e => by simp only [toP] at e; cases e
theorem dps_of (hF : Same W.F H) : ∀ (ds : List D) (vs : List V) (ps : List PyData), Reps W ds vs → toPs ds = some ps → DpAll W.K H vs ps
  | [], vs, ps, h, e => by
    rw [h.invN]
    simp only [toPs] at e
    cases e
    exact .nil
  | d :: ds, vs, ps, h, e => by
    obtain ⟨v, r, rfl, h1, h2⟩ := h.inv
    simp only [toPs] at e
    cases q : toP d with
    | none => rw [q] at e; cases e
    | some p =>
      cases q2 : toPs ds with
      | none => rw [q, q2] at e; cases e
      | some ps' =>
        rw [q, q2] at e
        cases e
        exact .cons (dp_of hF d v p h1 q) (dps_of hF ds r ps' h2 q2)
end
theorem Rel.dp (r : Rel W T σ H) {d : D} {v : V} {p : PyData} (h : RepT W σ d v) (e : toPT T d = some p) : Dp W.K H v p := by
  unfold toPT at e
  split at e
  · rename_i xs hv
    obtain ⟨a, vs, rfl, s, q⟩ := r.vLst h hv
    cases q2 : toPs xs with
    | none => rw [q2] at e; cases e
    | some ps =>
      rw [q2] at e
      cases e
      exact .lst (SqL.of s) (dps_of r.s.F xs vs ps q q2)
  · cases d <;> first | (exact dp_of r.s.F _ v p h e) | (simp only [toP] at e; cases e)
end

section
variable {X : Cx}
/-- a list, a tuple held against an empty one: whatever it holds -/
def r0 (neg : Bool) (K : PySem.W.Frag) : R2 := fun x y H Q => ∃ a b xs, x = .ref a ∧ y = .ref b ∧ ((SqL K H a xs ∧ SqL K H b []) ∨ (SqT K H a xs ∧ SqT K H b [])) ∧ Q (.bl (xor neg xs.isEmpty)) H
theorem empty_of {pins : List (Addr × Obj)} {s : Shared} {σ : L2.St} {H : Hp} {a b : Addr} {xs : List V} (I : Inv X pins σ H s) (h : (SqL X.K H a xs ∧ SqL X.K H b []) ∨ (SqT X.K H a xs ∧ SqT X.K H b [])) :
    ∃ its : List Value, its.length = xs.length ∧ ((s.heap.IsList a its.toArray ∧ s.heap.IsList b #[]) ∨ (s.heap.IsTuple a its.toArray ∧ s.heap.IsTuple b #[])) := by
  rcases h with ⟨h1, h2⟩ | ⟨h1, h2⟩
  · obtain ⟨us, r1, ⟨o1, n1, g1, c1, _, d1⟩, _⟩ := I.list h1
    obtain ⟨ws, r2, ⟨o2, n2, g2, c2, _, d2⟩, _⟩ := I.list h2
    cases r2
    exact ⟨us, r1.length.symm, .inl ⟨⟨o1, g1, c1, n1, d1⟩, ⟨o2, g2, c2, n2, d2⟩⟩⟩
  · obtain ⟨us, r1, ⟨o1, g1, c1, n1, d1⟩, _⟩ := I.tuple h1
    obtain ⟨ws, r2, ⟨o2, g2, c2, n2, d2⟩, _⟩ := I.tuple h2
    cases r2
    exact ⟨us, r1.length.symm, .inr ⟨⟨o1, g1, c1, n1, d1⟩, ⟨o2, g2, c2, n2, d2⟩⟩⟩
theorem op_eq0 (hu : X.A.units + 64 < cLine) : OpR X (compareOp .Eq) (r0 false X.K) := by
  intro pins s σ H x y v u Q I rx ry h
  obtain ⟨a, b, xs, rfl, rfl, hs, q⟩ := h
  cases rx
  cases ry
  have hu' : X.A.units < cLine := by omega
  obtain ⟨its, hl, ht⟩ := empty_of I hs
  cases xs with
  | nil =>
    obtain rfl : its = [] := List.eq_nil_of_length_eq_zero hl
    rcases ht with ⟨h1, h2⟩ | ⟨h1, h2⟩
    · exact SeqAt.eq_listAt (e := fun _ => true) h1 h2 rfl hu' (fun j z => absurd z (Nat.not_lt_zero j)) ⟨.bl true, H, I, rfl, q⟩
    · exact SeqAt.eq_tupleAt (e := fun _ => true) h1 h2 hu' (fun j z => absurd z (Nat.not_lt_zero j)) ⟨.bl true, H, I, rfl, q⟩
  | cons x xs =>
    have hn : (its.toArray.size != (#[] : Array Value).size) = true := by
      rw [List.size_toArray, hl]
      simp
    rcases ht with ⟨h1, h2⟩ | ⟨h1, h2⟩
    · exact SeqAt.eq_list_lengthsAt h1 h2 hn hu' ⟨.bl false, H, I, rfl, q⟩
    · refine SeqAt.eq_tupleAt (e := fun _ => true) h1 h2 hu' (fun j _ z => absurd z (Nat.not_lt_zero j)) ⟨.bl false, H, I, ?_, q⟩
      show Value.bool _ = Value.bool false
      rw [show (its.toArray.size == (#[] : Array Value).size) = false by simpa using hn, Bool.and_false]
theorem op_ne0 (hu : X.A.units + 64 < cLine) : OpR X (compareOp .NotEq) (r0 true X.K) := by
  intro pins s σ H x y v u Q I rx ry h
  obtain ⟨a, b, xs, rfl, rfl, hs, q⟩ := h
  cases rx
  cases ry
  have hu' : X.A.units < cLine := by omega
  obtain ⟨its, hl, ht⟩ := empty_of I hs
  cases xs with
  | nil =>
    obtain rfl : its = [] := List.eq_nil_of_length_eq_zero hl
    rcases ht with ⟨h1, h2⟩ | ⟨h1, h2⟩
    · exact SeqAt.RcNeAt.lists (e := fun _ => true) h1 h2 rfl hu' (fun j z => absurd z (Nat.not_lt_zero j)) X.prog X.w _ _ ⟨.bl false, H, I, rfl, q⟩
    · exact SeqAt.RcNeAt.tuples (e := fun _ => true) h1 h2 hu' (fun j z => absurd z (Nat.not_lt_zero j)) X.prog X.w _ _ ⟨.bl false, H, I, rfl, q⟩
  | cons x xs =>
    have hn : (its.toArray.size != (#[] : Array Value).size) = true := by
      rw [List.size_toArray, hl]
      simp
    rcases ht with ⟨h1, h2⟩ | ⟨h1, h2⟩
    · exact SeqAt.RcNeAt.lists_lengths h1 h2 hn hu' X.prog X.w _ _ ⟨.bl true, H, I, rfl, q⟩
    · refine SeqAt.RcNeAt.tuples (e := fun _ => true) h1 h2 hu' (fun j _ z => absurd z (Nat.not_lt_zero j)) X.prog X.w _ _ ⟨.bl true, H, I, ?_, q⟩
      show Value.bool _ = Value.bool true
      rw [show (its.toArray.size == (#[] : Array Value).size) = false by simpa using hn, Bool.and_false]
      rfl
def rEqA (K : PySem.W.Frag) : R2 := fun x y H Q => rEq x y H Q ∨ (rEqD K x y H Q ∨ r0 false K x y H Q)
theorem op_eqA (hu : X.A.units + 64 < cLine) : OpR X (compareOp .Eq) (rEqA X.K) := op_eq.or ((op_eqD hu).or (op_eq0 hu))
def rNeA (K : PySem.W.Frag) : R2 := fun x y H Q => rNe x y H Q ∨ (rNeD K x y H Q ∨ r0 true K x y H Q)
theorem op_neA (hu : X.A.units + 64 < cLine) : OpR X (compareOp .NotEq) (rNeA X.K) := op_ne.or ((op_neD hu).or (op_ne0 hu))
theorem opEq_cases {T : MT} {x y : D} {b : Bool} (h : opEq T x y = some b) : (∃ i j, x = .int i ∧ y = .int j ∧ b = (i == j)) ∨ (∃ i j, x = .str i ∧ y = .str j ∧ b = (i == j)) ∨ (∃ i j, x = .bl i ∧ y = .bl j ∧ b = (i == j)) ∨
    (∃ xs, ((vw T x = .lst xs ∧ vw T y = .lst []) ∨ (vw T x = .tup xs ∧ vw T y = .tup [])) ∧ b = xs.isEmpty) ∨
    ∃ p q, toPT T x = some p ∧ toPT T y = some q ∧ SeqAt.shaped p = true ∧ SeqAt.shaped q = true ∧ b = PyData.eqv p q := by
  unfold opEq at h
  split at h
  · cases h
    exact .inl ⟨_, _, rfl, rfl, rfl⟩
  · cases h
    exact .inr (.inl ⟨_, _, rfl, rfl, rfl⟩)
  · cases h
    exact .inr (.inr (.inl ⟨_, _, rfl, rfl, rfl⟩))
  · split at h
    · rename_i xs h1 h2
      cases h
      exact .inr (.inr (.inr (.inl ⟨xs, .inl ⟨h1, h2⟩, rfl⟩)))
    · rename_i xs h1 h2
      cases h
      exact .inr (.inr (.inr (.inl ⟨xs, .inr ⟨h1, h2⟩, rfl⟩)))
    · split at h
      · rename_i p q hp hq
        split at h
        · rename_i hs
          rw [Bool.and_eq_true] at hs
          cases h
          exact .inr (.inr (.inr (.inr ⟨p, q, hp, hq, hs.1, hs.2, rfl⟩)))
        · cases h
      · cases h
/-- .. with what it reads -/
theorem empty_rd {W : Wd} {T : MT} {σ : L2.St} {H : Hp} {x y : D} {v w : V} {xs : List D} (i : In X W) (r : Rel W T σ H) (hx : RepT W σ x v) (hy : RepT W σ y w) (h : (vw T x = .lst xs ∧ vw T y = .lst []) ∨ (vw T x = .tup xs ∧ vw T y = .tup [])) :
    ∃ a b vs, v = .ref a ∧ w = .ref b ∧ ((SqL X.K H a vs ∧ SqL X.K H b []) ∨ (SqT X.K H a vs ∧ SqT X.K H b [])) ∧ vs.isEmpty = xs.isEmpty := by
  rcases h with ⟨h1, h2⟩ | ⟨h1, h2⟩
  · obtain ⟨a, vs, rfl, g1, t1⟩ := r.vLst hx h1
    obtain ⟨b, ws, rfl, g2, t2⟩ := r.vLst hy h2
    rw [t2.invN] at g2
    exact ⟨a, b, vs, rfl, rfl, .inl ⟨SqL.of g1, SqL.of g2⟩, by rw [Bool.eq_iff_iff, List.isEmpty_iff, List.isEmpty_iff]; exact t1.nil_iff⟩
  · obtain ⟨a, vs, rfl, g1, t1⟩ := r.vTup hx h1
    obtain ⟨b, ws, rfl, g2, t2⟩ := r.vTup hy h2
    rw [t2.invN] at g2
    rw [i.K] at g1 g2
    exact ⟨a, b, vs, rfl, rfl, .inr ⟨g1, g2⟩, by rw [Bool.eq_iff_iff, List.isEmpty_iff, List.isEmpty_iff]; exact t1.nil_iff⟩
theorem c_eq : CmpOk X (rEqA X.K) opEq := fun W T σ H x y b v w Q i r hx hy e q => by
  rcases opEq_cases e with ⟨i', j, rfl, rfl, rfl⟩ | ⟨i', j, rfl, rfl, rfl⟩ | ⟨i', j, rfl, rfl, rfl⟩ | ⟨xs, h1, rfl⟩ | ⟨p, p', h1, h2, s1, s2, rfl⟩
  · rw [rInt hx, rInt hy]
    exact .inl ⟨rfl, by rw [dec_int]; exact q⟩
  · rw [rStr hx, rStr hy]
    exact .inl ⟨rfl, by rw [dec_str]; exact q⟩
  · rw [rBl hx, rBl hy]
    exact .inl ⟨rfl, by rw [dec_bl]; exact q⟩
  · obtain ⟨a, b, vs, e1, e2, e3, e4⟩ := empty_rd i r hx hy h1
    exact .inr (.inr ⟨a, b, vs, e1, e2, e3, by rw [e4, Bool.false_xor]; exact q⟩)
  · exact .inr (.inl ⟨p, p', by rw [← i.K]; exact r.dp hx h1, by rw [← i.K]; exact r.dp hy h2, s1, s2, q⟩)
theorem c_ne : CmpOk X (rNeA X.K) opNe := fun W T σ H x y b v w Q i r hx hy e q => by
  unfold opNe at e
  cases h : opEq T x y with
  | none => rw [h] at e; cases e
  | some c =>
    rw [h] at e
    cases e
    rcases opEq_cases h with ⟨i', j, rfl, rfl, rfl⟩ | ⟨i', j, rfl, rfl, rfl⟩ | ⟨i', j, rfl, rfl, rfl⟩ | ⟨xs, h1, rfl⟩ | ⟨p, p', h1, h2, s1, s2, rfl⟩
    · rw [rInt hx, rInt hy]
      exact .inl ⟨rfl, by rw [dec_int]; exact q⟩
    · rw [rStr hx, rStr hy]
      exact .inl ⟨rfl, by rw [dec_str]; exact q⟩
    · rw [rBl hx, rBl hy]
      exact .inl ⟨rfl, by rw [dec_bl]; exact q⟩
    · obtain ⟨a, b, vs, e1, e2, e3, e4⟩ := empty_rd i r hx hy h1
      exact .inr (.inr ⟨a, b, vs, e1, e2, e3, by rw [e4, Bool.true_xor]; exact q⟩)
    · exact .inr (.inl ⟨p, p', by rw [← i.K]; exact r.dp hx h1, by rw [← i.K]; exact r.dp hy h2, s1, s2, q⟩)

/-! ### in, is -/
theorem rep_flat {W : Wd} {d : D} {v : V} (h : Rep W d v) (f : flatD d = true) : flatV v = true := by
  cases d <;> first | (simp only [Rep] at h; rw [h]; rfl) | cases f
theorem rep_eqF {W : Wd} {d d' : D} {v v' : V} (h : Rep W d v) (h' : Rep W d' v') (f : flatD d = true) (f' : flatD d' = true) : eqV v v' = eqF d d' := by
  cases d <;> first | (simp only [Rep] at h; rw [h]) | cases f
  all_goals (cases d' <;> first | (simp only [Rep] at h'; rw [h']; rfl) | cases f')
theorem reps_flat {W : Wd} : ∀ {ds : List D} {vs : List V}, Reps W ds vs → ds.all flatD = true → vs.all flatV = true
  | [], vs, h, _ => by
    rw [h.invN]
    rfl
  | d :: ds, vs, h, f => by
    obtain ⟨v, r, rfl, h1, t⟩ := h.inv
    rw [List.all_cons, Bool.and_eq_true] at f ⊢
    exact ⟨rep_flat h1 f.1, reps_flat t f.2⟩
theorem reps_any {W : Wd} {x : D} {v : V} (hx : Rep W x v) (fx : flatD x = true) : ∀ {ds : List D} {vs : List V}, Reps W ds vs → ds.all flatD = true → inV v vs = ds.any fun z => eqF z x
  | [], vs, h, _ => by
    rw [h.invN]
    rfl
  | d :: ds, vs, h, f => by
    obtain ⟨w, r, rfl, h1, t⟩ := h.inv
    rw [List.all_cons, Bool.and_eq_true] at f
    have ih := reps_any hx fx t f.2
    unfold inV at ih ⊢
    rw [List.any_cons, List.any_cons, ih, rep_eqF h1 hx f.1 fx]
theorem RepT.flat {W : Wd} {σ : L2.St} {d : D} {v : V} (h : RepT W σ d v) (f : flatD d = true) : Rep W d v := by
  cases d <;> first | exact h | cases f
theorem sign_of_size {c : Str} (h : c.cps.size = 1) : c = ⟨#[c.cps.getD 0 0]⟩ := by
  obtain ⟨⟨l⟩⟩ := c
  match l, h with
  | [x], _ => rfl
theorem opIn_cases {T : MT} {x y : D} {b : Bool} (h : opIn T x y = some b) : (∃ c z, x = .str ⟨#[c]⟩ ∧ y = .str z ∧ b = decide (c ∈ z.cps.toList)) ∨
    ∃ ys, (vw T y = .lst ys ∨ vw T y = .tup ys) ∧ flatD x = true ∧ ys.all flatD = true ∧ b = ys.any fun z => eqF z x := by
  unfold opIn at h
  split at h
  · split at h
    · rename_i c z hc
      cases h
      exact .inl ⟨_, z, by rw [← sign_of_size hc], rfl, rfl⟩
    · cases h
  · split at h
    · rename_i ys hv
      split at h
      · rename_i hs
        rw [Bool.and_eq_true] at hs
        cases h
        exact .inr ⟨ys, .inl hv, hs.1, hs.2, rfl⟩
      · cases h
    · rename_i ys hv
      split at h
      · rename_i hs
        rw [Bool.and_eq_true] at hs
        cases h
        exact .inr ⟨ys, .inr hv, hs.1, hs.2, rfl⟩
      · cases h
    · cases h
theorem c_in : CmpOk X (fun x y H Q => (∃ (c : Nat) (z : Str), x = .str ⟨#[c]⟩ ∧ y = .str z ∧ Q (.bl (decide (c ∈ z.cps.toList))) H) ∨ rIn X.K false x y H Q) opIn := fun W T σ H x y b v w Q i r hx hy e q => by
  rcases opIn_cases e with ⟨c, z, rfl, rfl, rfl⟩ | ⟨ys, hv, fx, fs, rfl⟩
  · rw [rStr hx, rStr hy]
    exact .inl ⟨c, z, rfl, rfl, q⟩
  · have hx' := hx.flat fx
    rcases hv with hv | hv
    · obtain ⟨a, vs, rfl, s, rs⟩ := r.vLst hy hv
      refine .inr ⟨a, vs, rfl, .inl (SqL.of s), rep_flat hx' fx, reps_flat rs fs, ?_⟩
      rw [if_neg Bool.false_ne_true, reps_any hx' fx rs fs]
      exact q
    · obtain ⟨a, vs, rfl, s, rs⟩ := r.vTup hy hv
      refine .inr ⟨a, vs, rfl, .inr (by rw [← i.K]; exact s), rep_flat hx' fx, reps_flat rs fs, ?_⟩
      rw [if_neg Bool.false_ne_true, reps_any hx' fx rs fs]
      exact q
theorem c_notIn : CmpOk X (fun x y H Q => (∃ (c : Nat) (z : Str), x = .str ⟨#[c]⟩ ∧ y = .str z ∧ Q (.bl (!decide (c ∈ z.cps.toList))) H) ∨ rIn X.K true x y H Q) opNotIn := fun W T σ H x y b v w Q i r hx hy e q => by
  unfold opNotIn at e
  cases h : opIn T x y with
  | none => rw [h] at e; cases e
  | some c =>
    rw [h] at e
    cases e
    rcases opIn_cases h with ⟨c, z, rfl, rfl, rfl⟩ | ⟨ys, hv, fx, fs, rfl⟩
    · rw [rStr hx, rStr hy]
      exact .inl ⟨c, z, rfl, rfl, q⟩
    · have hx' := hx.flat fx
      rcases hv with hv | hv
      · obtain ⟨a, vs, rfl, s, rs⟩ := r.vLst hy hv
        refine .inr ⟨a, vs, rfl, .inl (SqL.of s), rep_flat hx' fx, reps_flat rs fs, ?_⟩
        rw [if_pos rfl, reps_any hx' fx rs fs]
        exact q
      · obtain ⟨a, vs, rfl, s, rs⟩ := r.vTup hy hv
        refine .inr ⟨a, vs, rfl, .inr (by rw [← i.K]; exact s), rep_flat hx' fx, reps_flat rs fs, ?_⟩
        rw [if_pos rfl, reps_any hx' fx rs fs]
        exact q
theorem op_inA : OpR X (compareOp .In) (fun x y H Q => (∃ (c : Nat) (z : Str), x = .str ⟨#[c]⟩ ∧ y = .str z ∧ Q (.bl (decide (c ∈ z.cps.toList))) H) ∨ rIn X.K false x y H Q) := op_in_sign.or op_in_seq
theorem op_notInA : OpR X (compareOp .NotIn) (fun x y H Q => (∃ (c : Nat) (z : Str), x = .str ⟨#[c]⟩ ∧ y = .str z ∧ Q (.bl (!decide (c ∈ z.cps.toList))) H) ∨ rIn X.K true x y H Q) := op_notIn_sign.or op_notIn_seq
theorem isNon_iff {W : Wd} {T : MT} {σ : L2.St} {H : Hp} (r : Rel W T σ H) {d : D} {v : V} (h : RepT W σ d v) (ht : ∀ i, d ≠ .own i) (hg : ∀ x, d ≠ .gl x) : decide (v = .non) = isNonD d := by
  cases d <;> first | (exact absurd rfl (ht _)) | (exact absurd rfl (hg _)) | (have h : Rep W _ v := h; simp only [Rep] at h)
  all_goals first
    | (rw [h]; rfl)
    | (obtain ⟨a, vs, rfl, _⟩ := h; rfl)
    | (obtain ⟨a, rfl, _⟩ := h; rfl)
    | (obtain ⟨a, _, rfl⟩ := h; rfl)
theorem c_is : CmpOk X (fun x y H Q => (y = .non ∧ Q (.bl (decide (x = .non))) H) ∨ rIsB x y H Q) opIs := fun W T σ H x y b v w Q i r hx hy e q => by
  cases y <;> simp only [opIs] at e <;> try (cases e)
  · left
    refine ⟨rNon hy, ?_⟩
    have h1 : (∀ i, x ≠ .own i) ∧ (∀ z, x ≠ .gl z) ∧ isNonD x = b := by cases x <;> simp_all
    rw [isNon_iff r hx h1.1 h1.2.1, h1.2.2]
    exact q
  · right
    cases x <;> try (cases e)
    rw [rBl hx, rBl hy]
    rename_i c a
    exact ⟨a, c, rfl, rfl, by rw [← Bool.beq_eq_decide_eq]; exact q⟩
theorem c_isNot : CmpOk X (fun x y H Q => (y = .non ∧ Q (.bl (!decide (x = .non))) H) ∨ rNotB x y H Q) opIsNot := fun W T σ H x y b v w Q i r hx hy e q => by
  unfold opIsNot at e
  cases h : opIs T x y with
  | none => rw [h] at e; cases e
  | some c0 =>
    rw [h] at e
    cases e
    cases y <;> simp only [opIs] at h <;> try (cases h)
    · left
      refine ⟨rNon hy, ?_⟩
      have h1 : (∀ i, x ≠ .own i) ∧ (∀ z, x ≠ .gl z) ∧ isNonD x = c0 := by cases x <;> simp_all
      rw [isNon_iff r hx h1.1 h1.2.1, h1.2.2]
      exact q
    · right
      cases x <;> try (cases h)
      rw [rBl hx, rBl hy]
      rename_i c a
      exact ⟨a, c, rfl, rfl, by rw [← Bool.beq_eq_decide_eq]; exact q⟩
theorem op_isA : OpR X (compareOp .Is) (fun x y H Q => (y = .non ∧ Q (.bl (decide (x = .non))) H) ∨ rIsB x y H Q) := op_isN.or op_isBl
theorem op_isNotA : OpR X (compareOp .IsNot) (fun x y H Q => (y = .non ∧ Q (.bl (!decide (x = .non))) H) ∨ rNotB x y H Q) := op_notN.or op_notBl
end

/-! ### tests and truth -/
section
variable {X : Cx} {E : XK} {e a b c : Expr} {rest : List Expr} {ma mb mc : M D} {m1 m2 : M Bool} {pos : Pos}
theorem tt_bnd {α : Type} {k : Bool → M α} {σ : L2.St} {H : Hp} {R : α → Wd → Hp → Prop} {W : Wd} {T : MT} (i : In X W) (r : Rel W T σ H) (p : post E W σ (bnd m1 k T) R) :
    tt X E m1 σ H fun c H1 => ∃ W1 T1, W.le W1 ∧ In X W1 ∧ Rel W1 T1 σ H1 ∧ post E W1 σ (k c T1) R :=
  ⟨W, T, i, r, (post_bnd p).imp fun d W1 H1 l ⟨T1, r1, p1⟩ => ⟨W1, T1, l, i.le l, r1, p1⟩⟩
theorem Rel.truth (r : Rel W T σ H) {x : D} {v : V} {b : Bool} (h : RepT W σ x v) (e : FL.truth T x = some b) : TruV W.K v H b := by
  unfold FL.truth at e
  split at e
  · cases e
    rw [rNon h]
    rfl
  · cases e
    rw [rBl h]
    rfl
  · cases e
    rw [rInt h]
    rfl
  · split at e
    · rename_i hz
      cases e
      rw [rStr h]
      exact ⟨sz_line hz, rfl⟩
    · cases e
  · split at e
    · rename_i xs hv
      obtain ⟨a, vs, rfl, s, q⟩ := r.vLst h hv
      cases e
      refine .inl ⟨vs, SqL.of s, ?_⟩
      have := q.length
      cases vs <;> cases xs <;> first | rfl | (simp at this)
    · rename_i xs hv
      obtain ⟨a, vs, rfl, s, q⟩ := r.vTup h hv
      cases e
      refine .inr (.inl ⟨vs, s, ?_⟩)
      have := q.length
      cases vs <;> cases xs <;> first | rfl | (simp at this)
    · cases e
theorem bv_tru (ha : EV X E a ma) (he : ∀ whole, isTrue a X.env whole = (do let v ← whole; standAt a.pos; holding [v] (truthy v)) := by intro _; rfl) : BV X E a (bTru ma) := (pt_truth ha he).imp fun σ H Q h => by
  obtain ⟨W, T, i, r, p⟩ := h
  refine (tm_bnd i r p).imp fun v H1 q => ?_
  obtain ⟨d1, W1, T1, l1, i1, r1, v1, p1⟩ := q
  obtain ⟨z, e, k⟩ := post_lift r1 p1
  exact ⟨z, by rw [← i1.K]; exact r1.truth v1 e, k W1 H1 (Wd.le.refl _) r1⟩
theorem bw_one_and (ha : BV X E a m1) : BW X E (.BoolOp .And [a] pos) m1 := pw_and1 ha
theorem bw_one_or (ha : BV X E a m1) : BW X E (.BoolOp .Or [a] pos) m1 := pw_or1 ha
theorem bw_and (ha : BV X E a m1) (hb : BW X E (.BoolOp .And (b :: rest) pos) m2) : BW X E (.BoolOp .And (a :: b :: rest) pos) (bAnd m1 m2) := (pw_and ha hb).imp fun σ H Q h => by
  obtain ⟨W, T, i, r, p⟩ := h
  refine (tt_bnd i r p).imp fun c H1 q => ?_
  obtain ⟨W1, T1, l1, i1, r1, p1⟩ := q
  cases c with
  | true => exact ⟨W1, T1, i1, r1, p1⟩
  | false => exact post_true r1 p1
theorem bw_or (ha : BV X E a m1) (hb : BW X E (.BoolOp .Or (b :: rest) pos) m2) : BW X E (.BoolOp .Or (a :: b :: rest) pos) (bOr m1 m2) := (pw_or ha hb).imp fun σ H Q h => by
  obtain ⟨W, T, i, r, p⟩ := h
  refine (tt_bnd i r p).imp fun c H1 q => ?_
  obtain ⟨W1, T1, l1, i1, r1, p1⟩ := q
  cases c with
  | true => exact post_true r1 p1
  | false => exact ⟨W1, T1, i1, r1, p1⟩
theorem bv_not (ha : BV X E a m1) : BV X E (.UnaryOp .Not a pos) (bNot m1) := (pt_not ha).imp fun σ H Q h => by
  obtain ⟨W, T, i, r, p⟩ := h
  refine (tt_bnd i r p).imp fun c H1 q => ?_
  obtain ⟨W1, T1, l1, i1, r1, p1⟩ := q
  exact post_true r1 p1
theorem ev_bo1 {op : BoolOp} (ha : EV X E a ma) : EV X E (.BoolOp op [a] pos) ma := pe_one ha
theorem bool_of {W : Wd} {σ : L2.St} {x : D} {v : V} {b : Bool} (h : RepT W σ x v) (e : toB x = some b) : v = .bl b := by
  cases x <;> simp only [toB] at e <;> cases e
  exact rBl h
theorem ev_and (ha : EV X E a ma) (hb : EV X E (.BoolOp .And (b :: rest) pos) mb) : EV X E (.BoolOp .And (a :: b :: rest) pos) (vAnd ma mb) := (pe_and ha hb).imp fun σ H Q h => by
  obtain ⟨W, T, i, r, p⟩ := h
  refine (tm_bnd i r p).imp fun v H1 q => ?_
  obtain ⟨d1, W1, T1, l1, i1, r1, v1, p1⟩ := q
  have p2 := post_bnd p1
  obtain ⟨z, e, k⟩ := post_lift r1 p2
  obtain ⟨T3, r3, p4⟩ := k W1 H1 (Wd.le.refl _) r1
  refine ⟨z, bool_of v1 e, ?_⟩
  cases z with
  | true => exact ⟨W1, T3, i1, r3, p4⟩
  | false => exact post_true r3 p4 _ mkBl
theorem ev_or (ha : EV X E a ma) (hb : EV X E (.BoolOp .Or (b :: rest) pos) mb) : EV X E (.BoolOp .Or (a :: b :: rest) pos) (vOr ma mb) := (pe_or ha hb).imp fun σ H Q h => by
  obtain ⟨W, T, i, r, p⟩ := h
  refine (tm_bnd i r p).imp fun v H1 q => ?_
  obtain ⟨d1, W1, T1, l1, i1, r1, v1, p1⟩ := q
  have p2 := post_bnd p1
  obtain ⟨z, e, k⟩ := post_lift r1 p2
  obtain ⟨T3, r3, p4⟩ := k W1 H1 (Wd.le.refl _) r1
  refine ⟨z, bool_of v1 e, ?_⟩
  cases z with
  | true => exact post_true r3 p4 _ mkBl
  | false => exact ⟨W1, T3, i1, r3, p4⟩
theorem ev_not (ha : EV X E a ma) : EV X E (.UnaryOp .Not a pos) (vNot ma) := (pe_not ha).imp fun σ H Q h => by
  obtain ⟨W, T, i, r, p⟩ := h
  refine (tm_bnd i r p).imp fun v H1 q => ?_
  obtain ⟨d1, W1, T1, l1, i1, r1, v1, p1⟩ := q
  have p2 := post_bnd p1
  obtain ⟨z, e, k⟩ := post_lift r1 p2
  obtain ⟨T3, r3, p4⟩ := k W1 H1 (Wd.le.refl _) r1
  exact ⟨z, bool_of v1 e, post_true r3 p4 _ mkBl⟩
theorem ev_if (hc : BV X E c m1) (ha : EV X E a ma) (hb : EV X E b mb) : EV X E (.IfExp c a b pos) (mIf m1 ma mb) := (pe_ifExp hc ha hb).imp fun σ H Q h => by
  obtain ⟨W, T, i, r, p⟩ := h
  refine (tt_bnd i r p).imp fun c H1 q => ?_
  obtain ⟨W1, T1, l1, i1, r1, p1⟩ := q
  cases c with
  | true => exact ⟨W1, T1, i1, r1, p1⟩
  | false => exact ⟨W1, T1, i1, r1, p1⟩
end
end FL

set_option Elab.async false
set_option linter.all false
set_option maxRecDepth 100000
set_option maxHeartbeats 4000000
set_option exponentiation.threshold 20000
/-! FL5: products, arguments, built-ins, places, slices, displays. -/
namespace FL
open PySem PySem.Spec PyProof.Rows L2

theorem fold_cat (cs : Array Nat) : ∀ (k : Nat) (acc : Array Nat), ((List.replicate k cs).foldl (· ++ ·) acc).toList = acc.toList ++ (List.replicate k cs.toList).flatten
  | 0, acc => by simp
  | k + 1, acc => by
    rw [List.replicate_succ, List.foldl_cons, fold_cat cs k, List.replicate_succ, List.flatten_cons, Array.toList_append, List.append_assoc]
theorem txt_mul (x : Str) (k : Int) (h : 0 ≤ k) : Txt.mul x k = ⟨(List.replicate k.toNat x.cps.toList).flatten.toArray⟩ := by
  unfold Txt.mul
  by_cases h1 : k < 1
  · rw [if_pos h1, show k.toNat = 0 by omega]
    rfl
  · rw [if_neg h1]
    by_cases h2 : (k == 1 || x.length == 0) = true
    · rw [if_pos h2]
      rw [Bool.or_eq_true] at h2
      obtain ⟨⟨l⟩⟩ := x
      rcases h2 with h2 | h2
      · rw [beq_iff_eq] at h2
        rw [h2]
        simp
      · have hl : l = [] := by
          have : (⟨⟨l⟩⟩ : Str).length = l.length := rfl
          rw [this, beq_iff_eq] at h2
          exact List.eq_nil_of_length_eq_zero h2
        rw [hl]
        simp
    · rw [if_neg h2]
      have := fold_cat x.cps k.toNat #[]
      congr 1
      apply Array.ext'
      rw [this]
      simp
theorem op_mulS {X : Cx} : OpR X (binaryOp .Mult) (fun x y H Q => ∃ (z : Str) (k : Int), x = .str z ∧ y = .int k ∧ 0 ≤ k ∧ k ≤ 1000 ∧ z.length ≤ 1000 ∧ Q (.str ⟨(List.replicate k.toNat z.cps.toList).flatten.toArray⟩) H) := by
  intro pins s σ H x y v u Q I rx ry h
  obtain ⟨z, k, rfl, rfl, h0, h1, h2, q⟩ := h
  obtain ⟨t, rfl⟩ := rx
  obtain ⟨t', rfl⟩ := ry
  refine SB.mul ⟨?_, fun a b => ?_, fun a b => ?_⟩ fun t2 k2 => ⟨.str _, H, I.tok _, ⟨_, rfl⟩, by rw [txt_mul z k h0]; exact q⟩
  · rw [Bool.or_eq_false_iff]
    exact ⟨decide_eq_false (by omega), decide_eq_false (by omega)⟩
  · intro c
    have hk : 0 < k := by omega
    have h3 : (1000 : Int) ≤ (2 ^ 63 - 1) / k := by
      rw [Int.le_ediv_iff_mul_le hk]
      omega
    have h4 : (z.length : Int) ≤ 1000 := by omega
    omega
  · have h3 : z.length * k.toNat ≤ 1000 * 1000 := Nat.mul_le_mul h2 (by omega)
    unfold Builtin.Str.tooLong
    rw [sizeLine_eq]
    exact decide_eq_false (by omega)

section
variable {X : Cx} {E : XK} {e a b c : Expr} {es : List Expr} {ma mb mc : M D} {mr : M (List D)} {pos : Pos}
theorem ev_mul (ha : EV X E a ma) (hb : EV X E b mb) : EV X E (.BinOp a .Mult b pos) (op2 opMul ma mb) := ev_op2 (op_mulW.or (op_mulS.or op_rep)) ha hb fun W T σ H x y z v w Q i r hx hy e k => by
  unfold opMul at e
  split at e
  · split at e
    · rename_i i' j hs
      rw [Bool.and_eq_true] at hs
      cases e
      rw [rInt hx, rInt hy]
      exact .inl ⟨_, _, rfl, rfl, wide_mul (small_lt hs.1) (small_lt hs.2) (by decide) (by decide) (by decide), k W H (Wd.le.refl W) r _ mkInt⟩
    · cases e
  · split at e
    · rename_i s n hs
      cases e
      rw [rStr hx, rInt hy]
      exact .inr (.inl ⟨_, _, rfl, rfl, hs.1, hs.2.1, hs.2.2, k W H (Wd.le.refl W) r _ mkStr⟩)
    · cases e
  · rename_i n _ _
    split at e
    · rename_i xs hv
      split at e
      · rename_i hs
        cases e
        obtain ⟨a, vs, rfl, s, q⟩ := r.vLst hx hv
        rw [rInt hy]
        refine .inr (.inr ⟨a, n, vs, rfl, rfl, s, by omega, by omega, ?_, fun p hp => r.newLst (q.rep n.toNat) k p hp⟩)
        rw [q.length, sizeLine_eq]
        have h3 : xs.length * n.toNat ≤ 100 * 100000 := Nat.mul_le_mul hs.2.2 (by omega)
        omega
      · cases e
    · cases e
  · cases e

/-! ### arguments -/
theorem RepTs.mono {W W' : Wd} {σ : L2.St} : ∀ {ds : List D} {vs : List V}, W.le W' → RepTs W σ ds vs → RepTs W' σ ds vs
  | _, _, _, .nil => .nil
  | _, _, l, .cons r t => .cons (RepT.mono l r) (RepTs.mono l t)
theorem av_nil : AV X E [] aNil := pa_nil.imp fun σ H Q h => by
  obtain ⟨W, T, i, r, p⟩ := h
  exact post_true r p _ .nil
theorem ta_bnd {α : Type} {k : List D → M α} {σ : L2.St} {H : Hp} {R : α → Wd → Hp → Prop} {W : Wd} {T : MT} (i : In X W) (r : Rel W T σ H) (p : post E W σ (bnd mr k T) R) :
    ta X E mr σ H fun vs H1 => ∃ ds W1 T1, W.le W1 ∧ In X W1 ∧ Rel W1 T1 σ H1 ∧ RepTs W1 σ ds vs ∧ post E W1 σ (k ds T1) R :=
  ⟨W, T, i, r, (post_bnd p).imp fun d W1 H1 l ⟨T1, r1, p1⟩ v hv => ⟨d, W1, T1, l, i.le l, r1, hv, p1⟩⟩
theorem av_cons (ha : EV X E a ma) (hr : AV X E es mr) (hs : starEach (a :: es) X.env = (false, eval a X.env) :: starEach es X.env := by rfl) : AV X E (a :: es) (aCons ma mr) := (pa_cons ha hr hs).imp fun σ H Q h => by
  obtain ⟨W, T, i, r, p⟩ := h
  refine (tm_bnd i r p).imp fun v H1 q => ?_
  obtain ⟨d1, W1, T1, l1, i1, r1, v1, p1⟩ := q
  refine (ta_bnd i1 r1 p1).imp fun vs H2 q => ?_
  obtain ⟨ds, W2, T2, l2, i2, r2, v2, p2⟩ := q
  exact post_true r2 p2 _ (.cons (v1.mono l2) v2)

/-- a built-in's rule on values does what its function on trees says -/
def BiOk (X : Cx) (r : List V → Hp → VK → Prop) (f : Bi) : Prop := ∀ (W : Wd) (T : MT) (σ : L2.St) (H : Hp) (ds : List D) (z : D) (vs : List V) (Q : VK), In X W → Rel W T σ H → RepTs W σ ds vs → f T ds = some z →
  (∀ W' H', W.le W' → Rel W' T σ H' → ∀ u, RepT W' σ z u → Q u H') → r vs H Q
theorem callB_run {r : List V → Hp → VK → Prop} {f : Bi} {σ : L2.St} {H : Hp} {Q : VK} (hf : BiOk X r f) (h : tm X E (callB f mr) σ H Q) : tCB r (ta X E mr) σ H Q := by
  obtain ⟨W, T, i, rl, p⟩ := h
  refine (ta_bnd i rl p).imp fun vs H1 q => ?_
  obtain ⟨ds, W1, T1, l1, i1, r1, v1, p1⟩ := q
  obtain ⟨z, e, k⟩ := post_lift r1 p1
  exact hf W1 T1 σ H1 ds z vs Q i1 r1 v1 e k
theorem ev_callB {id : String} {x : Str} {p : Pos} {r : List V → Hp → VK → Prop} {f : Bi} (hc : CallR X (.builtin id) r) (hf : BiOk X r f) (hg : Gl X x) (hm : X.mg x = none) (hv : bootBuiltins x = some (.builtin id)) (ha : AV X E (e :: es) mr)
    (hn : x ≠ "__name__" := by decide) (hdb : (x == ("__debug__" : Str)) = false := by decide) (he : starEach (e :: es) X.env = (false, eval e X.env) :: starEach es X.env := by rfl) (hpl : (backTo pos (starEach es X.env)).any (·.1) = false := by rfl) :
    EV X E (.Call (.Name x p) (e :: es) [] pos) (callB f mr) := (pe_callB hc hg hm hv ha hn hdb he hpl).imp fun σ H Q h => callB_run hf h
theorem ev_callT {id : String} {x : Str} {p : Pos} {r : List V → Hp → VK → Prop} {f : Bi} (hc : CallR X (.type id) r) (hf : BiOk X r f) (hg : Gl X x) (hm : X.mg x = none) (hv : bootBuiltins x = some (.type id)) (ha : AV X E (e :: es) mr)
    (hn : x ≠ "__name__" := by decide) (hdb : (x == ("__debug__" : Str)) = false := by decide) (he : starEach (e :: es) X.env = (false, eval e X.env) :: starEach es X.env := by rfl) (hpl : (backTo pos (starEach es X.env)).any (·.1) = false := by rfl) :
    EV X E (.Call (.Name x p) (e :: es) [] pos) (callB f mr) := (pe_callTy hc hg hm hv ha hn hdb he hpl).imp fun σ H Q h => callB_run hf h

theorem RepTs.one {W : Wd} {σ : L2.St} {d : D} {vs : List V} (h : RepTs W σ [d] vs) : ∃ v, vs = [v] ∧ RepT W σ d v := by
  cases h with
  | cons r t =>
    cases t
    exact ⟨_, rfl, r⟩
theorem RepTs.two {W : Wd} {σ : L2.St} {d e : D} {vs : List V} (h : RepTs W σ [d, e] vs) : ∃ v w, vs = [v, w] ∧ RepT W σ d v ∧ RepT W σ e w := by
  cases h with
  | cons r t =>
    obtain ⟨w, rfl, r2⟩ := RepTs.one t
    exact ⟨_, w, rfl, r, r2⟩
/-- a built-in of one thing -/
theorem bi1 {r : List V → Hp → VK → Prop} {f : Bi} (hn : ∀ T ds z, f T ds = some z → ∃ d, ds = [d]) (h : ∀ (W : Wd) (T : MT) (σ : L2.St) (H : Hp) (d z : D) (v : V) (Q : VK), In X W → Rel W T σ H → RepT W σ d v → f T [d] = some z →
    (∀ W' H', W.le W' → Rel W' T σ H' → ∀ u, RepT W' σ z u → Q u H') → r [v] H Q) : BiOk X r f := fun W T σ H ds z vs Q i rl hv e k => by
  obtain ⟨d, rfl⟩ := hn T ds z e
  obtain ⟨v, rfl, h1⟩ := hv.one
  exact h W T σ H d z v Q i rl h1 e k

theorem Rel.seqL {W : Wd} {T : MT} {σ : L2.St} {H : Hp} (r : Rel W T σ H) {d : D} {v : V} {xs : List D} (h : RepT W σ d v) (e : vw T d = .lst xs) : ∃ a vs, v = .ref a ∧ SqL W.K H a vs ∧ H a = some (.lst vs) ∧ Reps W xs vs := by
  obtain ⟨a, vs, h1, h2, h3⟩ := r.vLst h e
  exact ⟨a, vs, h1, SqL.of h2, h2, h3⟩
theorem Rel.scr {W : Wd} {T : MT} {σ : L2.St} {H : Hp} (r : Rel W T σ H) {ns : List Int} {v : V} (h : RepT W σ (.scr ns) v) : ∃ a, v = .ref a ∧ SqL W.K H a (ns.map V.int) := by
  have h : Rep W (.scr ns) v := h
  simp only [Rep] at h
  obtain ⟨a, rfl, s⟩ := h
  exact ⟨a, rfl, r.s.F.seq s⟩
theorem Rel.len {W : Wd} {T : MT} {σ : L2.St} {H : Hp} (r : Rel W T σ H) {d : D} {v : V} {n : Nat} (h : RepT W σ d v) (e : lenD T d = some n) : LenV W.K v H n := by
  unfold lenD at e
  split at e
  · split at e
    · rename_i hz
      cases e
      rw [rStr h]
      exact ⟨sz_line hz, rfl⟩
    · cases e
  · cases e
    obtain ⟨a, rfl, s⟩ := r.scr h
    exact .inl ⟨_, s, (List.length_map ..).symm⟩
  · split at e
    · rename_i xs hv
      cases e
      obtain ⟨a, vs, rfl, s, _, q⟩ := r.seqL h hv
      exact .inl ⟨vs, s, q.length.symm⟩
    · rename_i xs hv
      cases e
      obtain ⟨a, vs, rfl, s, q⟩ := r.vTup h hv
      exact .inr ⟨vs, s, q.length.symm⟩
    · cases e
theorem b_len : BiOk X (fun xs H Q => ∃ x n, xs = [x] ∧ LenV X.K x H n ∧ Q (.int n) H) biLen := bi1 (fun T ds z h => by unfold biLen at h; split at h <;> first | exact ⟨_, rfl⟩ | cases h) fun W T σ H d z v Q i r h e k => by
  simp only [biLen] at e
  cases q : lenD T d with
  | none => rw [q] at e; cases e
  | some n =>
    rw [q] at e
    cases e
    exact ⟨v, n, rfl, by rw [← i.K]; exact r.len h q, k W H (Wd.le.refl W) r _ mkInt⟩
theorem b_abs : BiOk X (fun xs H Q => ∃ i, xs = [.int i] ∧ Q (.int (if i < 0 then -i else i)) H) biAbs := fun W T σ H ds z vs Q i r hv e k => by
  unfold biAbs at e
  split at e
  · cases e
    obtain ⟨v, rfl, h1⟩ := hv.one
    rw [rInt h1]
    exact ⟨_, rfl, k W H (Wd.le.refl W) r _ mkInt⟩
  · cases e
theorem b_max2 : BiOk X (fun xs H Q => ∃ i j, xs = [.int i, .int j] ∧ Q (.int (if j > i then j else i)) H) biMax2 := fun W T σ H ds z vs Q i r hv e k => by
  unfold biMax2 at e
  split at e
  · cases e
    obtain ⟨v, w, rfl, h1, h2⟩ := hv.two
    rw [rInt h1, rInt h2]
    exact ⟨_, _, rfl, k W H (Wd.le.refl W) r _ mkInt⟩
  · cases e
theorem b_min2 : BiOk X (fun xs H Q => ∃ i j, xs = [.int i, .int j] ∧ Q (.int (if j < i then j else i)) H) biMin2 := fun W T σ H ds z vs Q i r hv e k => by
  unfold biMin2 at e
  split at e
  · cases e
    obtain ⟨v, w, rfl, h1, h2⟩ := hv.two
    rw [rInt h1, rInt h2]
    exact ⟨_, _, rfl, k W H (Wd.le.refl W) r _ mkInt⟩
  · cases e
theorem b_int : BiOk X (fun xs H Q => (∃ i, xs = [.int i] ∧ Q (.int i) H) ∨ ∃ k, xs = [.bl k] ∧ Q (.int (if k then 1 else 0)) H) biInt := fun W T σ H ds z vs Q i r hv e k => by
  unfold biInt at e
  split at e
  · cases e
    obtain ⟨v, rfl, h1⟩ := hv.one
    rw [rInt h1]
    exact .inl ⟨_, rfl, k W H (Wd.le.refl W) r _ mkInt⟩
  · cases e
    obtain ⟨v, rfl, h1⟩ := hv.one
    rw [rBl h1]
    exact .inr ⟨_, rfl, k W H (Wd.le.refl W) r _ mkInt⟩
  · cases e
theorem b_strI : BiOk X (fun xs H Q => ∃ i, xs = [.int i] ∧ i.natAbs.log2 < 1920 ∧ Q (.str (toString i)) H) biStrI := fun W T σ H ds z vs Q i r hv e k => by
  unfold biStrI at e
  split at e
  · split at e
    · rename_i hz
      cases e
      obtain ⟨v, rfl, h1⟩ := hv.one
      rw [rInt h1]
      exact ⟨_, rfl, by have := PySem.Flt.log2_lt_of (show 0 < 1900 by decide) hz; omega, k W H (Wd.le.refl W) r _ mkStr⟩
    · cases e
  · cases e
theorem b_list : BiOk X (fun xs H Q => ∃ p ys, xs = [.ref p] ∧ (SqL X.K H p ys ∨ SqT X.K H p ys) ∧ ∀ l, H l = none → Q (.ref l) (upd H l (.lst ys))) biList := fun W T σ H ds z vs Q i r hv e k => by
  unfold biList at e
  split at e
  · obtain ⟨v, rfl, h1⟩ := hv.one
    split at e
    · rename_i xs hv
      cases e
      obtain ⟨a, vs, rfl, s, _, q⟩ := r.seqL h1 hv
      exact ⟨a, vs, rfl, .inl (by rw [← i.K]; exact s), fun p hp => r.newLst q k p hp⟩
    · rename_i xs hv
      cases e
      obtain ⟨a, vs, rfl, s, q⟩ := r.vTup h1 hv
      exact ⟨a, vs, rfl, .inr (by rw [← i.K]; exact s), fun p hp => r.newLst q k p hp⟩
    · cases e
  · cases e
theorem b_tuple : BiOk X (fun xs H Q => ∃ p ys, xs = [.ref p] ∧ ((SqL X.K H p ys ∧ ∀ l, H l = none → Q (.ref l) (upd H l (.tup ys))) ∨ (SqT X.K H p ys ∧ Q (.ref p) H))) biTuple := fun W T σ H ds z vs Q i r hv e k => by
  unfold biTuple at e
  split at e
  · obtain ⟨v, rfl, h1⟩ := hv.one
    split at e
    · rename_i xs hv
      cases e
      obtain ⟨a, vs, rfl, s, _, q⟩ := r.seqL h1 hv
      exact ⟨a, vs, rfl, .inl ⟨by rw [← i.K]; exact s, fun p hp => r.newTup q k p hp⟩⟩
    · rename_i xs hv2
      cases e
      obtain ⟨a, vs, rfl, s, q⟩ := r.vTup h1 hv2
      rw [vw_tup_eq hv2] at h1
      exact ⟨a, vs, rfl, .inr ⟨by rw [← i.K]; exact s, k W H (Wd.le.refl W) r _ h1⟩⟩
    · cases e
  · cases e
theorem toInts_map : ∀ {ds : List D} {ns : List Int}, toInts ds = some ns → ds = ns.map D.int
  | [], ns, h => by cases h; rfl
  | d :: ds, ns, h => by
    cases d <;> simp only [toInts] at h <;> try (cases h)
    rename_i i
    cases q : toInts ds with
    | none => rw [q] at h; cases h
    | some ms =>
      rw [q] at h
      cases h
      rw [toInts_map q]
      rfl
theorem toBls_map : ∀ {ds : List D} {ns : List Bool}, toBls ds = some ns → ds = ns.map D.bl
  | [], ns, h => by cases h; rfl
  | d :: ds, ns, h => by
    cases d <;> simp only [toBls] at h <;> try (cases h)
    rename_i i
    cases q : toBls ds with
    | none => rw [q] at h; cases h
    | some ms =>
      rw [q] at h
      cases h
      rw [toBls_map q]
      rfl
theorem Reps.bls {W : Wd} : ∀ {ns : List Bool} {vs : List V}, Reps W (ns.map D.bl) vs → vs = ns.map V.bl
  | [], vs, h => h.invN
  | n :: ns, vs, h => by
    obtain ⟨v, r, rfl, h1, t⟩ := h.inv
    simp only [Rep] at h1
    rw [h1, Reps.bls t]
    rfl
theorem listOf_eq {T : MT} {x : D} {xs : List D} (h : listOf T x = some xs) : vw T x = .lst xs := by
  unfold listOf at h
  split at h
  · rename_i ys hv
    cases h
    exact hv
  · cases h
theorem Rel.ints {W : Wd} {T : MT} {σ : L2.St} {H : Hp} (r : Rel W T σ H) {d : D} {v : V} {ns : List Int} (h : RepT W σ d v) (e : (listOf T d).bind toInts = some ns) : ∃ a, v = .ref a ∧ SqL W.K H a (ns.map V.int) := by
  cases q : listOf T d with
  | none => rw [q] at e; cases e
  | some xs =>
    rw [q] at e
    obtain ⟨a, vs, rfl, s, _, t⟩ := r.seqL h (listOf_eq q)
    rw [toInts_map (show toInts xs = some ns from e)] at t
    rw [t.ints] at s
    exact ⟨a, rfl, s⟩
theorem Rel.bls {W : Wd} {T : MT} {σ : L2.St} {H : Hp} (r : Rel W T σ H) {d : D} {v : V} {ns : List Bool} (h : RepT W σ d v) (e : (listOf T d).bind toBls = some ns) : ∃ a, v = .ref a ∧ SqL W.K H a (ns.map V.bl) := by
  cases q : listOf T d with
  | none => rw [q] at e; cases e
  | some xs =>
    rw [q] at e
    obtain ⟨a, vs, rfl, s, _, t⟩ := r.seqL h (listOf_eq q)
    rw [toBls_map (show toBls xs = some ns from e)] at t
    rw [t.bls] at s
    exact ⟨a, rfl, s⟩
theorem b_sum : BiOk X (rSum X.K) biSum := fun W T σ H ds z vs Q i r hv e k => by
  unfold biSum at e
  split at e
  · obtain ⟨v, rfl, h1⟩ := hv.one
    rename_i x
    cases q : (listOf T x).bind toInts with
    | none => rw [q] at e; cases e
    | some ns =>
      rw [q] at e
      cases e
      obtain ⟨a, rfl, s⟩ := r.ints h1 q
      exact ⟨a, ns, rfl, by rw [← i.K]; exact s, k W H (Wd.le.refl W) r _ mkInt⟩
  · cases e
theorem b_all : BiOk X (rAll X.K) biAll := fun W T σ H ds z vs Q i r hv e k => by
  unfold biAll at e
  split at e
  · obtain ⟨v, rfl, h1⟩ := hv.one
    rename_i x
    cases q : (listOf T x).bind toBls with
    | none => rw [q] at e; cases e
    | some ns =>
      rw [q] at e
      cases e
      obtain ⟨a, rfl, s⟩ := r.bls h1 q
      exact ⟨a, ns, rfl, by rw [← i.K]; exact s, k W H (Wd.le.refl W) r _ mkBl⟩
  · cases e
theorem b_any : BiOk X (rAny X.K) biAny := fun W T σ H ds z vs Q i r hv e k => by
  unfold biAny at e
  split at e
  · obtain ⟨v, rfl, h1⟩ := hv.one
    rename_i x
    cases q : (listOf T x).bind toBls with
    | none => rw [q] at e; cases e
    | some ns =>
      rw [q] at e
      cases e
      obtain ⟨a, rfl, s⟩ := r.bls h1 q
      exact ⟨a, ns, rfl, by rw [← i.K]; exact s, k W H (Wd.le.refl W) r _ mkBl⟩
  · cases e
theorem fold_max : ∀ (ns : List Int) (m : Int), (∀ y, y = m ∨ y ∈ ns → y ≤ ns.foldl (fun a b => if b > a then b else a) m) ∧ (ns.foldl (fun a b => if b > a then b else a) m = m ∨ ns.foldl (fun a b => if b > a then b else a) m ∈ ns)
  | [], m => ⟨fun y h => h.elim (fun e => by rw [e]; exact Int.le_refl _) (fun h => by cases h), .inl rfl⟩
  | n :: ns, m => by
    rw [List.foldl_cons]
    obtain ⟨h1, h2⟩ := fold_max ns (if n > m then n else m)
    refine ⟨fun y h => ?_, ?_⟩
    · have h0 := h1 (if n > m then n else m) (.inl rfl)
      rcases h with rfl | h
      · refine Int.le_trans ?_ h0
        split <;> omega
      · rcases List.mem_cons.mp h with rfl | h
        · refine Int.le_trans ?_ h0
          split <;> omega
        · exact h1 y (.inr h)
    · rcases h2 with h2 | h2
      · rw [h2]
        split
        · exact .inr (List.mem_cons_self ..)
        · exact .inl rfl
      · exact .inr (List.mem_cons_of_mem _ h2)
theorem fold_min : ∀ (ns : List Int) (m : Int), (∀ y, y = m ∨ y ∈ ns → ns.foldl (fun a b => if b < a then b else a) m ≤ y) ∧ (ns.foldl (fun a b => if b < a then b else a) m = m ∨ ns.foldl (fun a b => if b < a then b else a) m ∈ ns)
  | [], m => ⟨fun y h => h.elim (fun e => by rw [e]; exact Int.le_refl _) (fun h => by cases h), .inl rfl⟩
  | n :: ns, m => by
    rw [List.foldl_cons]
    obtain ⟨h1, h2⟩ := fold_min ns (if n < m then n else m)
    refine ⟨fun y h => ?_, ?_⟩
    · have h0 := h1 (if n < m then n else m) (.inl rfl)
      rcases h with rfl | h
      · refine Int.le_trans h0 ?_
        split <;> omega
      · rcases List.mem_cons.mp h with rfl | h
        · refine Int.le_trans h0 ?_
          split <;> omega
        · exact h1 y (.inr h)
    · rcases h2 with h2 | h2
      · rw [h2]
        split
        · exact .inr (List.mem_cons_self ..)
        · exact .inl rfl
      · exact .inr (List.mem_cons_of_mem _ h2)
theorem b_max : BiOk X (rMax X.K) biMax := fun W T σ H ds z vs Q i r hv e k => by
  unfold biMax at e
  split at e
  · obtain ⟨v, rfl, h1⟩ := hv.one
    split at e
    · rename_i x n ns q
      cases e
      obtain ⟨a, rfl, s⟩ := r.ints h1 q
      refine ⟨a, n :: ns, rfl, by rw [← i.K]; exact s, by simp, fun m hm hle => ?_⟩
      obtain ⟨g1, g2⟩ := fold_max ns n
      have e1 : m = maxI n ns := Int.le_antisymm (g1 m (List.mem_cons.mp hm)) (hle _ (List.mem_cons.mpr g2))
      rw [e1]
      exact k W H (Wd.le.refl W) r _ mkInt
    · cases e
  · cases e
theorem b_min : BiOk X (rMin X.K) biMin := fun W T σ H ds z vs Q i r hv e k => by
  unfold biMin at e
  split at e
  · obtain ⟨v, rfl, h1⟩ := hv.one
    split at e
    · rename_i x n ns q
      cases e
      obtain ⟨a, rfl, s⟩ := r.ints h1 q
      refine ⟨a, n :: ns, rfl, by rw [← i.K]; exact s, by simp, fun m hm hle => ?_⟩
      obtain ⟨g1, g2⟩ := fold_min ns n
      have e1 : m = minI n ns := Int.le_antisymm (hle _ (List.mem_cons.mpr g2)) (g1 m (List.mem_cons.mp hm))
      rw [e1]
      exact k W H (Wd.le.refl W) r _ mkInt
    · cases e
  · cases e
end
end FL

set_option Elab.async false
set_option linter.all false
set_option maxRecDepth 100000
set_option maxHeartbeats 4000000
set_option exponentiation.threshold 20000
/-! FL6: isinstance, repr, range as a list, places, slices, displays. -/
namespace FL
open PySem PySem.Spec PyProof.Rows L2

def tyN : Ty → String
  | .non => "NoneType"
  | .bl => "bool"
  | .int => "int"
  | .str => "str"
  | .lst => "list"
  | .tup => "tuple"
  | .dic => "dict"
theorem sqL_ty {K : PySem.W.Frag} {H : Hp} {a : Addr} {xs : List V} (h : SqL K H a xs) : TyX K H (.ref a) (.type "list") := by
  rcases h with (h | ⟨o, h⟩) | ⟨o, its, n, h, c, _⟩
  · exact .base (.lst h)
  · exact .base (.frz h)
  · exact .kList h c
theorem sqT_ty {K : PySem.W.Frag} {H : Hp} {a : Addr} {xs : List V} (h : SqT K H a xs) : TyX K H (.ref a) (.type "tuple") := by
  rcases h with (h | ⟨o, h⟩) | ⟨o, its, n, h, c, _⟩
  · exact .base (.tup h)
  · exact .fTuple h
  · exact .kTuple h c
section
variable {W : Wd} {T : MT} {σ : L2.St} {H : Hp}
theorem Rel.vDic (r : Rel W T σ H) {d : D} {v : V} {ks : List Ky} {xs : List D} (h : RepT W σ d v) (e : vw T d = .dic ks xs) : ∃ a vs, v = .ref a ∧ ks.length = xs.length ∧ H a = some (.dK (ks.zip vs)) ∧ Reps W xs vs := by
  cases d <;> simp only [vw] at e <;> try (cases e)
  · have h : Rep W (.dic _ _) v := h
    simp only [Rep] at h
    obtain ⟨a, vs, rfl, l, h1, h2⟩ := h
    exact ⟨a, vs, rfl, l, r.s.F _ _ h1, h2⟩
  · rename_i n
    have h : Rep W (.obj n) v := h
    simp only [Rep] at h
    obtain ⟨a, h1, rfl⟩ := h
    cases q : T.st[n]? with
    | none => rw [q] at e; cases e
    | some o =>
      rw [q] at e
      cases o <;> simp only [moV] at e <;> try (cases e)
      obtain ⟨_, _, vs, l, h2, h3⟩ := r.s.obj n a _ h1 q rfl
      exact ⟨a, vs, rfl, l, h2, h3⟩
  · rename_i i
    have h : σ[i]? = some (some v) := h
    cases q : T.env[i]? with
    | none => rw [q] at e; cases e
    | some s =>
      rw [q] at e
      cases s <;> try (cases e)
      rename_i o
      cases o <;> simp only [moV] at e <;> try (cases e)
      obtain ⟨a, h1, _, _, _, _, vs, l, h2, h3⟩ := r.e.own i _ q
      rw [h] at h1
      cases h1
      exact ⟨a, vs, rfl, l, h2, h3⟩
theorem Rel.ty (r : Rel W T σ H) {d : D} {v : V} {t : Ty} (h : RepT W σ d v) (e : tyD T d = some t) : TyX W.K H v (.type (tyN t)) := by
  unfold tyD at e
  split at e
  · cases e
    rw [rNon h]
    exact .base .non
  · cases e
    rw [rBl h]
    exact .base (.bl _)
  · cases e
    rw [rInt h]
    exact .base (.int _)
  · cases e
    rw [rStr h]
    exact .base (.str _)
  · cases e
    obtain ⟨a, rfl, s⟩ := r.scr h
    exact sqL_ty s
  · split at e
    · rename_i xs hv
      cases e
      obtain ⟨a, vs, rfl, s, _⟩ := r.seqL h hv
      exact sqL_ty s
    · rename_i xs hv
      cases e
      obtain ⟨a, vs, rfl, s, _⟩ := r.vTup h hv
      exact sqT_ty s
    · rename_i ks xs hv
      cases e
      obtain ⟨a, vs, rfl, _, s, _⟩ := r.vDic h hv
      exact .base (.dK s)
    · cases e
end
theorem kit_tab (K : PySem.W.Frag) (a t : Ty) (ht : t ≠ .non) : PySem.W.kitOne K (.type (tyN a)) (.type (tyN t)) = some (isTy a t) := by
  cases a <;> cases t <;> first | exact absurd rfl ht | exact kit_ty (by decide +kernel)

section
variable {X : Cx} {E : XK} {e a b c : Expr} {es : List Expr} {ma mb mc : M D} {mr : M (List D)} {pos : Pos}
/-- isinstance(x, T), T a built-in type by its name -/
theorem ev_isi (t : Ty) {p q : Pos} {tn : Str} (ha : EV X E a ma) (hg : Gl X "isinstance") (hm : X.mg "isinstance" = none) (hT : PE X (.Name tn q) (tC (.ty (tyN t)))) (ht : t ≠ .non := by decide)
    (h1 : starEach [a, .Name tn q] X.env = (false, eval a X.env) :: starEach [.Name tn q] X.env := by rfl) (h2 : starEach [.Name tn q] X.env = (false, eval (.Name tn q) X.env) :: starEach [] X.env := by rfl) (hpl : (backTo pos (starEach [.Name tn q] X.env)).any (·.1) = false := by rfl) :
    EV X E (.Call (.Name "isinstance" p) [a, .Name tn q] [] pos) (callB (biIsi t) (aCons ma aNil)) :=
  (pe_callB (t := tCons (tm X E ma) (tCons (tC (.ty (tyN t))) tNil)) call_isi hg hm (by decide +kernel) (pa_cons ha (pa_cons hT pa_nil h2) h1) (by decide) (by decide) h1 hpl).imp fun σ H Q h => by
    obtain ⟨W, T, i, r, p⟩ := h
    have p' : post E W σ (bnd ma (fun x => lift fun T => biIsi t T [x]) T) fun d W' H' => ∀ v, RepT W' σ d v → Q v H' := by
      have e0 : callB (biIsi t) (aCons ma aNil) = bnd ma (fun x => lift fun T => biIsi t T [x]) := by
        funext T
        unfold callB aCons aNil bnd ret
        cases ma T <;> rfl
      rw [e0] at p
      exact p
    refine (tm_bnd i r p').imp fun v H1 q => ?_
    obtain ⟨d1, W1, T1, l1, i1, r1, v1, p1⟩ := q
    obtain ⟨z, e, k⟩ := post_lift r1 p1
    simp only [biIsi] at e
    cases q : tyD T1 d1 with
    | none => rw [q] at e; cases e
    | some ty =>
      rw [q] at e
      cases e
      exact ⟨v, .ty (tyN t), .type (tyN ty), .type (tyN t), isTy ty t, rfl, .ty _, by rw [← i1.K]; exact r1.ty v1 q, kit_tab _ _ _ ht, k W1 H1 (Wd.le.refl _) r1 _ mkBl⟩
/-- isinstance(x, (T, U)) -/
theorem ev_isi2 (t u : Ty) {p q q' qt : Pos} {tn un : Str} {n : Nat} (ha : EV X E a ma) (hg : Gl X "isinstance") (hm : X.mg "isinstance" = none) (hT : PE X (.Name tn q) (tC (.ty (tyN t)))) (hU : PE X (.Name un q') (tC (.ty (tyN u)))) (ht : t ≠ .non := by decide) (hu : u ≠ .non := by decide)
    (h1 : starEach [a, .Tuple [.Name tn q, .Name un q'] n qt] X.env = (false, eval a X.env) :: starEach [.Tuple [.Name tn q, .Name un q'] n qt] X.env := by rfl)
    (h2 : starEach [.Tuple [.Name tn q, .Name un q'] n qt] X.env = (false, eval (.Tuple [.Name tn q, .Name un q'] n qt) X.env) :: starEach [] X.env := by rfl)
    (h3 : starEach [.Name tn q, .Name un q'] X.env = (false, eval (.Name tn q) X.env) :: starEach [.Name un q'] X.env := by rfl) (h4 : starEach [.Name un q'] X.env = (false, eval (.Name un q') X.env) :: starEach [] X.env := by rfl)
    (hpl : (backTo pos (starEach [.Tuple [.Name tn q, .Name un q'] n qt] X.env)).any (·.1) = false := by rfl) :
    EV X E (.Call (.Name "isinstance" p) [a, .Tuple [.Name tn q, .Name un q'] n qt] [] pos) (callB (biIsi2 t u) (aCons ma aNil)) :=
  (pe_callB (t := tCons (tm X E ma) (tCons (tTup (tCons (tC (.ty (tyN t))) (tCons (tC (.ty (tyN u))) tNil))) tNil)) call_isiT hg hm (by decide +kernel) (pa_cons ha (pa_cons (pe_tup (pa_cons hT (pa_cons hU pa_nil h4) h3)) pa_nil h2) h1) (by decide) (by decide) h1 hpl).imp fun σ H Q h => by
    obtain ⟨W, T, i, r, p⟩ := h
    have p' : post E W σ (bnd ma (fun x => lift fun T => biIsi2 t u T [x]) T) fun d W' H' => ∀ v, RepT W' σ d v → Q v H' := by
      have e0 : callB (biIsi2 t u) (aCons ma aNil) = bnd ma (fun x => lift fun T => biIsi2 t u T [x]) := by
        funext T
        unfold callB aCons aNil bnd ret
        cases ma T <;> rfl
      rw [e0] at p
      exact p
    refine (tm_bnd i r p').imp fun v H1 q => ?_
    obtain ⟨d1, W1, T1, l1, i1, r1, v1, p1⟩ := q
    obtain ⟨z, e, k⟩ := post_lift r1 p1
    simp only [biIsi2] at e
    cases q : tyD T1 d1 with
    | none => rw [q] at e; cases e
    | some ty =>
      rw [q] at e
      cases e
      refine ⟨by show 2 ≤ sizeLine; decide, fun tp htp => ?_⟩
      have r2 := r1.put (o := .tup [.ty (tyN t), .ty (tyN u)]) htp
      have l2 := r1.putLe (o := .tup [.ty (tyN t), .ty (tyN u)]) htp
      refine ⟨v, tp, [.ty (tyN t), .ty (tyN u)], .type (tyN ty), [.type (tyN t), .type (tyN u)], isTy ty t || isTy ty u, rfl, upd_same, .cons (.ty _) (.cons (.ty _) .nil), ?_, ?_, k _ _ l2 r2 _ mkBl⟩
      · rw [← i1.K]
        exact r2.ty (v1.mono l2) q
      · refine kitAny_cons (kit_tab _ _ _ ht) (fun z => ?_) fun z => by rw [z]; rfl
        rw [z, Bool.false_or]
        refine kitAny_cons (kit_tab _ _ _ hu) (fun z => ?_) fun z => z
        rw [z]
        exact kitAny_nil

/-! ### places -/
theorem ixD_eq (n : Nat) (i : Int) : ixD n i = ixN n i := rfl
theorem atI_of {α : Type} {xs : List α} {i : Int} {v : α} (h : ((ixD xs.length i).bind fun j => xs[j]?) = some v) : atI xs i = some v := h
theorem Reps.atI {W : Wd} {xs : List D} {vs : List V} {i : Int} {d : D} (h : Reps W xs vs) (e : ((ixD xs.length i).bind fun j => xs[j]?) = some d) : ∃ v, L2.atI vs i = some v ∧ Rep W d v := by
  cases q : ixD xs.length i with
  | none => rw [q] at e; cases e
  | some j =>
    rw [q] at e
    obtain ⟨v, h1, h2⟩ := h.get (show xs[j]? = some d from e)
    refine ⟨v, ?_, h2⟩
    show (ixN vs.length i).bind (fun j => vs[j]?) = some v
    rw [h.length, ← ixD_eq, q]
    exact h1
theorem ev_ix (ha : EV X E a ma) (hb : EV X E b mb) (hs : PlainIx b := by exact fun _ _ => rfl) : EV X E (.Subscript a b pos) (op2 opIx ma mb) := (pe_ix ix_seq ha hb hs).imp fun σ H Q h => op2_run h fun W T σ H x y z v w Q i r hx hy e k => by
  unfold opIx at e
  split at e
  · rename_i n
    rw [rInt hy]
    split at e
    · split at e
      · rename_i s hz
        cases q : ixD s.cps.toList.length n with
        | none =>
          rw [show s.length = s.cps.toList.length from rfl, q] at e
          cases e
        | some j =>
          rw [show s.length = s.cps.toList.length from rfl, q] at e
          cases q2 : s.cps.toList[j]? with
          | none =>
            have e : (s.cps.toList[j]?.map fun c => D.str ⟨#[c]⟩) = some z := e
            rw [q2] at e
            cases e
          | some c =>
            have e : (s.cps.toList[j]?.map fun c => D.str ⟨#[c]⟩) = some z := e
            rw [q2] at e
            cases e
            rw [rStr hx]
            refine .inr (.inr ⟨s, n, c, rfl, rfl, sz_line hz, ?_, k W H (Wd.le.refl W) r _ mkStr⟩)
            show (ixN s.cps.toList.length n).bind (fun j => s.cps.toList[j]?) = some c
            rw [← ixD_eq, q]
            exact q2
      · cases e
    · rename_i ns
      obtain ⟨a, rfl, s⟩ := r.scr hx
      cases q : ixD ns.length n with
      | none => rw [q] at e; cases e
      | some j =>
        rw [q] at e
        have e : ns[j]?.map D.int = some z := e
        cases q2 : ns[j]? with
        | none => rw [q2] at e; cases e
        | some m =>
          rw [q2] at e
          cases e
          refine .inl ⟨a, ns.map V.int, n, .int m, rfl, rfl, by rw [← i.K]; exact s, ?_, k W H (Wd.le.refl W) r _ mkInt⟩
          show (ixN (ns.map V.int).length n).bind (fun j => (ns.map V.int)[j]?) = _
          rw [List.length_map, ← ixD_eq, q]
          show (ns.map V.int)[j]? = _
          rw [List.getElem?_map, q2]
          rfl
    · split at e
      · rename_i xs hv
        obtain ⟨a, vs, rfl, s, _, t⟩ := r.seqL hx hv
        obtain ⟨v, h1, h2⟩ := t.atI e
        exact .inl ⟨a, vs, n, v, rfl, rfl, by rw [← i.K]; exact s, h1, k W H (Wd.le.refl W) r _ (.of h2)⟩
      · rename_i xs hv
        obtain ⟨a, vs, rfl, s, t⟩ := r.vTup hx hv
        obtain ⟨v, h1, h2⟩ := t.atI e
        exact .inr (.inl ⟨a, vs, n, v, rfl, rfl, by rw [← i.K]; exact s, h1, k W H (Wd.le.refl W) r _ (.of h2)⟩)
      · cases e
  · cases e

/-! ### slices -/
theorem slE_eq (n d : Nat) (o : Option Int) : slE n d o = HT.sIx n d o := by cases o <;> rfl
theorem Reps.cut {W : Wd} {xs : List D} {vs : List V} (h : Reps W xs vs) (lo hi : Option Int) : Reps W (cutD xs lo hi) (cutV vs lo hi) := by
  unfold cutD cutV
  rw [h.length]
  simp only [slE_eq]
  exact (h.drop _).take _
theorem cutS_eq (z : Str) (o1 o2 : Option Int) : cutS z o1 o2 = ⟨(cutD z.cps.toList o1 o2).toArray⟩ := by
  unfold cutS cutD
  simp only [slE_eq]
  rfl
abbrev OV (X : Cx) (E : XK) (e : Option Expr) (m : M (Option Int)) : Prop := PO X e fun σ H Q => ∃ W T, In X W ∧ Rel W T σ H ∧ post E W σ (m T) fun o W' H' => Q o H'
theorem ov_none : OV X E none oNone := ⟨fun pins s σ H Q I h => by
  obtain ⟨W, T, i, r, p⟩ := h
  exact po_none.run pins s σ H Q I (post_true r p)⟩
theorem ov_some (ha : EV X E a ma) : OV X E (some a) (oSome ma) := ⟨fun pins s σ H Q I h => by
  refine (po_some ha).run pins s σ H Q I ?_
  obtain ⟨W, T, i, r, p⟩ := h
  refine (tm_bnd i r p).imp fun v H1 q => ?_
  obtain ⟨d1, W1, T1, l1, i1, r1, v1, p1⟩ := q
  obtain ⟨z, e, k⟩ := post_lift r1 p1
  cases d1 <;> simp only [toI] at e <;> cases e
  exact ⟨_, rInt v1, k W1 H1 (Wd.le.refl _) r1⟩⟩
theorem SlR.or3 {r1 r2 r3 : V → Option Int → Option Int → Hp → VK → Prop} (h1 : SlR X r1) (h2 : SlR X r2) (h3 : SlR X r3) : SlR X (fun x lo hi H Q => r1 x lo hi H Q ∨ r2 x lo hi H Q ∨ r3 x lo hi H Q) := SlR.or h1 (SlR.or h2 h3)
theorem ev_slice {lo hi : Option Expr} {ml mh : M (Option Int)} {p2 : Pos} (ha : EV X E a ma) (hl : OV X E lo ml) (hh : OV X E hi mh) : EV X E (.Subscript a (.Slice lo hi none p2) pos) (mSlice ma ml mh) :=
  (pe_slice (SlR.or3 sl_list sl_tupA sl_str) ha hl hh).imp fun σ H Q h => by
    obtain ⟨W, T, i, r, p⟩ := h
    refine (tm_bnd i r p).imp fun v H1 q => ?_
    obtain ⟨d1, W1, T1, l1, i1, r1, v1, p1⟩ := q
    refine ⟨W1, T1, i1, r1, (post_bnd p1).imp fun o1 W2 H2 l2 ⟨T2, r2, p2⟩ => ?_⟩
    refine ⟨W2, T2, i1.le l2, r2, (post_bnd p2).imp fun o2 W3 H3 l3 ⟨T3, r3, p3⟩ => ?_⟩
    obtain ⟨z, e, k⟩ := post_lift r3 p3
    have hx := v1.mono (l2.trans l3)
    have i3 := (i1.le l2).le l3
    unfold slice at e
    split at e
    · split at e
      · cases e
        refine .inr (.inr ⟨_, rStr hx, sz_line (by assumption), k W3 H3 (Wd.le.refl _) r3 _ ?_⟩)
        rw [cutS_eq]
        exact mkStr
      · cases e
    · split at e
      · rename_i xs hv
        cases e
        obtain ⟨a, vs, rfl, s, _, t⟩ := r3.seqL hx hv
        exact .inl ⟨a, vs, rfl, by rw [← i3.K]; exact s, fun p hp => r3.newLst (t.cut o1 o2) k p hp⟩
      · rename_i xs hv
        cases e
        obtain ⟨a, vs, rfl, s, t⟩ := r3.vTup hx hv
        refine .inr (.inl ⟨a, vs, rfl, by rw [← i3.K]; exact s, fun hw => ?_, fun _ p hp => r3.newTup (t.cut o1 o2) k p hp⟩)
        have e2 : cutD xs o1 o2 = xs := by
          unfold cutD
          rw [t.length] at hw
          simp only [slE_eq, hw.1, hw.2, List.drop_zero, Nat.sub_zero, List.take_length]
        rw [e2] at k
        rw [vw_tup_eq hv] at hx
        exact k W3 H3 (Wd.le.refl _) r3 _ hx
      · cases e

/-! ### displays -/
theorem RepTs.reps {W : Wd} {σ : L2.St} : ∀ {ds : List D} {vs : List V}, RepTs W σ ds vs → noTmp ds = true → Reps W ds vs
  | _, _, .nil, _ => Reps.nil
  | d :: ds, _, .cons r t, h => by
    unfold noTmp at h
    rw [List.all_cons, Bool.and_eq_true] at h
    exact Reps.cons (r.rep (by simpa using h.1)) (RepTs.reps t h.2)
theorem ev_tup {n : Nat} (ha : AV X E es mr) : EV X E (.Tuple es n pos) (mTup mr) := (pe_tup ha).imp fun σ H Q h => by
  obtain ⟨W, T, i, r, p⟩ := h
  refine (ta_bnd i r p).imp fun vs H1 q => ?_
  obtain ⟨ds, W1, T1, l1, i1, r1, v1, p1⟩ := q
  obtain ⟨z, e, k⟩ := post_lift r1 p1
  split at e
  · rename_i h
    rw [Bool.and_eq_true] at h
    cases e
    have t := v1.reps h.1
    exact ⟨by rw [t.length]; exact sz_line (of_decide_eq_true h.2), fun p hp => r1.newTup t k p hp⟩
  · cases e
end
end FL

set_option Elab.async false
set_option linter.all false
set_option maxRecDepth 100000
set_option maxHeartbeats 4000000
set_option exponentiation.threshold 20000
/-! FL7: defs of the text by their mirrors: what they promise, their calls. -/
namespace FL
open PySem PySem.Spec PyProof.Rows L2

/-- room, and nothing that is being shown -/
structure RoomG (k : Nat) (A : Around) : Prop where
  room : Room k A
  g : A.guards = some []
theorem RoomG.mono {j k : Nat} {A : Around} (r : RoomG k A) (h : j ≤ k) : RoomG j A := ⟨r.room.mono h, r.g⟩
theorem RoomG.deeper {k : Nat} {A : Around} (r : RoomG (k + 1) A) (env : Env) : RoomG k (A.deeper env) := ⟨r.room.deeper env, r.g⟩

/-- a def's promise, called where nothing is being shown -/
structure FnG (P : Program) (w : World) (K : PySem.W.Frag) (mg : Str → Option Value) (base : Heap) (CX : CXT) (k : Nat) (f : Addr) (fd : FuncData) (ps : List Str) (sp : Sp) : Prop where
  len : ∀ vs H Q E, sp vs H Q E → vs.length = ps.length
  run : ∀ (A : Around) (outer : List Env) (s : Shared) (H : Hp) (args : Args) (us : List Value) (vs : List V) (Q : VK) (E : XK),
    RoomG k A → Env0 P w K mg base A outer s H → BindsTo s fd args (ps.zip us) → Vals vs us → sp vs H Q E → codeAny (model P w) A (.call (.ref f) args) (CR CX outer P w H s Q E) s

section
variable {P : Program} {w : World} {K : PySem.W.Frag} {mg : Str → Option Value} {base : Heap} {CX : CXT}
theorem FnG.mono {j k : Nat} {f : Addr} {fd : FuncData} {ps : List Str} {sp : Sp} (F : FnG P w K mg base CX j f fd ps sp) (h : j ≤ k) : FnG P w K mg base CX k f fd ps sp :=
  ⟨F.len, fun A outer s H args us vs Q E r => F.run A outer s H args us vs Q E (r.mono h)⟩
theorem FnG.imp {k : Nat} {f : Addr} {fd : FuncData} {ps : List Str} {sp sp' : Sp} (F : FnG P w K mg base CX k f fd ps sp) (h : ∀ vs H Q E, sp' vs H Q E → sp vs H Q E) : FnG P w K mg base CX k f fd ps sp' :=
  ⟨fun vs H Q E q => F.len vs H Q E (h _ _ _ _ q), fun A outer s H args us vs Q E r e b v q => F.run A outer s H args us vs Q E r e b v (h _ _ _ _ q)⟩

/-- a def of the text, by its body's reading -/
theorem okG {x qual : Str} {st : Stmt} {f : Addr} {fd : FuncData} {N ps : List Str} {k : Nat} {sp : Sp} (F : Fun K x qual st f fd) (S : FnScope N ps (defScope st)) (len : ∀ vs H Q E, sp vs H Q E → vs.length = ps.length)
    (body : ∀ (cdv : Value) (A : Around) (outer : List Env) (s : Shared) (H : Hp) (vs : List V) (Q : VK) (E : XK), RoomG k (A.deeper (envOfC qual (defScope st) s.heap.objs.size f cdv)) → sp vs H Q E →
      ∃ t, PSs (cxOf CX P w K mg base N qual (defScope st) f cdv A outer s H E) (defBody st) t ∧ t { nx := fun _ H' => Q .non H', rt := Q } (start N vs) H) : FnG P w K mg base CX (k + 1) f fd ps sp := by
  obtain ⟨oc, od, kV, doc, pm, an, cdv, ct, osl, rfl, lk, hcd⟩ := F.ex
  refine ⟨len, fun A outer s H args us vs Q E hr e0 hb r hsp => ?_⟩
  have keep : ∀ b o, base.get? b = some o → s.heap.get? b = some o := fun b o e => (e0.bs b o e).1
  have KX := e0.mod.kin.keeps keep
  have lim := e0.mod.nolimit.keeps keep
  have par : ∀ y ∈ ps.zip us, (defScope st).names.lookup y.1 = some .local ∨ ((defScope st).names.lookup y.1 = some .cell ∧ ((cellsFrom (s.heap.objs.size + 1) (defScope st).names []).lookup y.1).isSome = true) := fun y hy =>
    (S.par y.1 (List.of_mem_zip hy).1).elim (fun q => .inl q) fun q => .inr ⟨q, PySem.W.cellsFrom_some _ _ _ (.inl q)⟩
  refine codeAny_call_function hr.room.depth (KX _ _ lk) rfl S.co S.gen rfl (PySem.W.codeRec_of KX hcd) (hb _ _ _ _ (wpAny_newFunctionEnv_cells S.kind par fun env he s1 x => ?_))
  subst he
  refine ⟨lim.keeps x.toInCall.keep, codeAny_func ?_⟩
  obtain ⟨t, ht, hq⟩ := body cdv A outer s H vs Q E (hr.deeper _) hsp
  have I := inv_start (CX := CX) (E := E) S hr.room.hd e0 (len _ _ _ _ hsp) r x
  refine wpAny_mono (ht.run [] s1 (start N vs) H _ I hq) (fun fl s' hs => ?_) fun e s' hs => hs
  cases fl with
  | ret u =>
    obtain ⟨v, σ', H', J, rv, q⟩ := hs
    exact ⟨v, H', J.os, J.bare, J.base, J.hok, rv, q⟩
  | next =>
    obtain ⟨σ', H', J, q⟩ := hs
    exact ⟨.non, H', J.os, J.bare, J.base, J.hok, rfl, q⟩
  | brk => exact hs.elim fun _ h => h.elim fun _ h => h.2.elim
  | cont => exact hs.elim fun _ h => h.elim fun _ h => h.2.elim
end

/-- what is wanted of a call's outcome -/
def fpost (E : XK) (W : Wd) (o : FO) (Q : VK) : Prop := match o with
  | .ok d st => ∀ W' H' v, W.le W' → RelS W' st H' → Rep W' d v → Q v H'
  | .exc c fs st => ∀ W' H' C dx vs, W.le W' → RelS W' st H' → W.mg c = some (.ref C) → H' dx = some (.xd ((fs.map (·.1)).zip vs)) → Reps W' (fs.map (·.2)) vs → E (.ref C) (some dx) H'
  | .stuck => False
/-- the promise: what the mirror says -/
def spF (K : PySem.W.Frag) (mg : Str → Option Value) (n : Nat) (mf : MF) : Sp := fun vs H Q E => ∃ W ds st, W.K = K ∧ W.mg = mg ∧ RelS W st H ∧ Reps W ds vs ∧ ds.length = n ∧ fpost E W (mf ds st) Q
theorem spF_len {K : PySem.W.Frag} {mg : Str → Option Value} {n : Nat} {mf : MF} (vs : List V) (H : Hp) (Q : VK) (E : XK) (h : spF K mg n mf vs H Q E) : vs.length = n := by
  obtain ⟨W, ds, st, _, _, _, r, l, _⟩ := h
  rw [r.length, l]

/-! ### the callers' own objects are looked after -/
/-- the own object of a slot stands at a -/
def OwnAt (T : MT) (σ : L2.St) (a : Addr) : Prop := ∃ (i : Nat) (mo : MO), T.env[i]? = some (Sl.own mo) ∧ σ[i]? = some (some (V.ref a))
open Classical in
/-- what is looked after while a callee runs: also the own objects of this frame's slots -/
noncomputable def guardE (W : Wd) (T : MT) (σ : L2.St) (H : Hp) : Hp := fun a => if OwnAt T σ a then H a else W.G a
noncomputable def Wd.guard (W : Wd) (T : MT) (σ : L2.St) (H : Hp) : Wd := { W with G := guardE W T σ H }
section
variable {W : Wd} {T : MT} {σ : L2.St} {H : Hp}
theorem guardE_own {a : Addr} (h : OwnAt T σ a) : guardE W T σ H a = H a := by
  unfold guardE
  rw [if_pos h]
theorem guardE_ne {a : Addr} (h : ¬ OwnAt T σ a) : guardE W T σ H a = W.G a := by
  unfold guardE
  rw [if_neg h]
theorem Rel.ownAt (r : Rel W T σ H) {a : Addr} (h : OwnAt T σ a) : W.F a = none ∧ W.G a = none ∧ a ∉ W.as ∧ H a ≠ none := by
  obtain ⟨i, mo, h1, h2⟩ := h
  obtain ⟨b, g1, g2, g3, g4, g5, _⟩ := r.e.own i mo h1
  rw [h2] at g1
  cases g1
  exact ⟨g2, g3, g4, g5⟩
theorem gd_lf {G : Hp} : W.lf { W with G := G } := ⟨rfl, rfl, ⟨[], (List.append_nil _).symm⟩, Same.refl _⟩
/-- more may be looked after -/
theorem RelS.more {st : List MO} {G : Hp} (r : RelS W st H) (h1 : Same G H) (h2 : ∀ a, G a ≠ none → W.F a = none ∧ a ∉ W.as) : RelS { W with G := G } st H where
  F := r.F
  G := h1
  len := r.len
  nd := r.nd
  th := r.th
  FG := fun a h => (h2 a h).1
  asG := fun a ha => by
    cases q : G a with
    | none => exact q
    | some o => exact absurd ha (h2 a (by rw [q]; exact fun z => nomatch z)).2
  obj := fun n a mo e1 e2 e3 => by
    obtain ⟨g1, g2, g3⟩ := r.obj n a mo e1 e2 e3
    refine ⟨g1, ?_, g3.monoF gd_lf rfl⟩
    cases q : G a with
    | none => exact q
    | some o => exact absurd (List.mem_of_getElem? e1) (h2 a (by rw [q]; exact fun z => nomatch z)).2
/-- less may be looked after -/
theorem RelS.less {st : List MO} {G : Hp} (r : RelS W st H) (h : Same G W.G) : RelS { W with G := G } st H := by
  have ne : ∀ a, G a ≠ none → W.G a ≠ none := fun a e => by
    cases q : G a with
    | none => exact absurd q e
    | some o =>
      rw [h a o q]
      exact fun z => nomatch z
  exact r.more (h.trans r.G) fun a e => ⟨r.FG a (ne a e), fun ha => ne a e (r.asG a ha)⟩
theorem Rel.guard (r : Rel W T σ H) : RelS (W.guard T σ H) T.st H := r.s.more (fun a o h => by
    by_cases q : OwnAt T σ a
    · rw [guardE_own q] at h
      exact h
    · rw [guardE_ne q] at h
      exact r.s.G a o h) fun a h => by
    by_cases q : OwnAt T σ a
    · exact ⟨(r.ownAt q).1, (r.ownAt q).2.2.1⟩
    · rw [guardE_ne q] at h
      exact ⟨r.s.FG a h, fun ha => h (r.s.asG a ha)⟩
/-- behind the callee -/
def Wd.unguard (W W' : Wd) : Wd := { W' with G := W.G }
theorem unguard_le {W' : Wd} (l : (W.guard T σ H).le W') : W.le (W.unguard W') := ⟨⟨l.K, l.mg, l.as, l.F⟩, rfl⟩
theorem Rel.unguard {W' : Wd} {st' : List MO} {H' : Hp} (r : Rel W T σ H) (l : (W.guard T σ H).le W') (r' : RelS W' st' H') : Rel (W.unguard W') { T with st := st' } σ H' := by
  have hG : Same W.G W'.G := fun a o h => by
    rw [l.G]
    show guardE W T σ H a = some o
    rw [guardE_ne fun q => by rw [(r.ownAt q).2.1] at h; cases h]
    exact h
  refine ⟨r'.less hG, ⟨r.e.len, fun i d h => ?_, fun i mo h => ?_, r.e.dist⟩⟩
  · obtain ⟨v, h1, h2⟩ := r.e.val i d h
    exact ⟨v, h1, h2.mono (unguard_le l)⟩
  · obtain ⟨a, h1, h2, h3, h4, h5, h6⟩ := r.e.own i mo h
    have q : W'.G a = H a := by
      rw [l.G]
      exact guardE_own ⟨i, mo, h, h1⟩
    have ne : W'.G a ≠ none := by
      rw [q]
      exact h5
    have hH : H' a = H a := by
      cases e : H a with
      | none => exact absurd e h5
      | some o => exact r'.G a o (by rw [q]; exact e)
    exact ⟨a, h1, r'.FG a ne, h3, fun ha => ne (r'.asG a ha), by rw [hH]; exact h5, h6.mono (unguard_le l) hH⟩
end

/-! ### calls -/
section
variable {X : Cx} {CX : CXT} {E : XK} {k : Nat} {f : Addr} {fd : FuncData} {ps : List Str} {sp : Sp} {mf : MF} {dfl : List D} {dvs : List V} {ds : List Value} {x : Str} {p pos : Pos} {e : Expr} {es : List Expr} {mr : M (List D)} {t : TA}
theorem run_g {pins : List (Addr × Obj)} {σ : L2.St} {H : Hp} {s : Shared} {Q : VK} {us : List Value} {vs : List V} (F : FnG X.prog X.w X.K X.mg X.base CX k f fd ps sp) (hr : RoomG k X.A) (hb : Binds X.K fd ps ds) (hd : Vals dvs ds) (hx : Passes CX X E)
    (I : Inv X pins σ H s) (r : Vals vs us) (h : sp (vs ++ dvs) H Q E) : wpAny (model X.prog X.w) X.A (call (.ref f) us) (EP X pins σ Q) X.xe s := by
  have r2 := r.append hd
  have hl : (us ++ ds).length = ps.length := r2.length.symm.trans (F.len _ _ _ _ h)
  refine wpAny_call (codeAny_mono (F.run X.A X.stack s H ⟨us, []⟩ (us ++ ds) (vs ++ dvs) Q E hr I.env0 (hb s us I.kIn hl) r2 h) fun r s' hq => ?_)
  match r, hq with
  | .error e, hq => exact hx pins σ H s e s' I hq
  | .ok (.ret u), hq => exact I.after hq
/-- f(e, ..) -/
theorem pe_callG (F : FnG X.prog X.w X.K X.mg X.base CX k f fd ps sp) (hr : RoomG k X.A) (hg : Gl X x) (hm : X.mg x = some (.ref f)) (hk : PySem.W.keepIn X.K (.ref f) = true) (hb : Binds X.K fd ps ds) (hd : Vals dvs ds) (hx : Passes CX X E) (ha : PA X (e :: es) t)
    (hdb : (x == ("__debug__" : Str)) = false := by decide) (he : starEach (e :: es) X.env = (false, eval e X.env) :: starEach es X.env := by rfl) (hpl : (backTo pos (starEach es X.env)).any (·.1) = false := by rfl) : PE X (.Call (.Name x p) (e :: es) [] pos) (tCall sp dvs E t) :=
  ⟨fun pins s σ H Q I h => wpAny_Call_Name_kw (ld_glob I hg hm (PySem.W.callWith_K (h₀ := X.base) I.ok.mod.kin hk (thn (ha.run pos pins s σ H _ I h) fun us s1 ⟨vs, H1, I1, r, q⟩ => ⟨I1.kIn, run_g F hr hb hd hx I1 r q⟩) he hpl) hdb)⟩
/-- f() -/
theorem pe_callG0 (F : FnG X.prog X.w X.K X.mg X.base CX k f fd ps sp) (hr : RoomG k X.A) (hg : Gl X x) (hm : X.mg x = some (.ref f)) (hk : PySem.W.keepIn X.K (.ref f) = true) (hb : Binds X.K fd ps ds) (hd : Vals dvs ds) (hx : Passes CX X E)
    (hdb : (x == ("__debug__" : Str)) = false := by decide) : PE X (.Call (.Name x p) [] [] pos) (tCall sp dvs E tNil) :=
  ⟨fun pins s σ H Q I h => wpAny_Call_Name_kw (ld_glob I hg hm (PySem.W.callWith_K0 I.kIn hk (run_g (us := []) F hr hb hd hx I .nil h)) hdb)⟩
theorem un_lf (W W' : Wd) : W'.lf (W.unguard W') := ⟨rfl, rfl, ⟨[], (List.append_nil _).symm⟩, Same.refl _⟩
/-- what the callee's outcome is to the caller -/
theorem call_post {W : Wd} {T : MT} {σ : L2.St} {H : Hp} {o : FO} {Q : VK} (i : In X W) (r : Rel W T σ H) (p : post E W σ (FO.out o T) fun d W' H' => ∀ v, RepT W' σ d v → Q v H') : fpost E (W.guard T σ H) o Q := by
  cases o with
  | ok d st =>
    intro W' H' v l r' hv
    have u := r.unguard l r'
    exact p _ H' (unguard_le l) u v (.of (Rep.monoF (un_lf W W') d v hv))
  | exc c fs st =>
    intro W' H' C dx vs l r' m hd hv
    have u := r.unguard l r'
    exact p _ H' C dx vs (unguard_le l) u.s m hd (hv.mono' (un_lf W W'))
  | stuck => exact p
theorem ev_call (F : FnG X.prog X.w X.K X.mg X.base CX k f fd ps (spF X.K X.mg ps.length mf)) (hr : RoomG k X.A) (hg : Gl X x) (hm : X.mg x = some (.ref f)) (hk : PySem.W.keepIn X.K (.ref f) = true) (hb : Binds X.K fd ps ds) (hd : Vals dvs ds) (hdd : ∀ W, In X W → Reps W dfl dvs)
    (hx : Passes CX X E) (ha : AV X E (e :: es) mr) (hdb : (x == ("__debug__" : Str)) = false := by decide) (he : starEach (e :: es) X.env = (false, eval e X.env) :: starEach es X.env := by rfl) (hpl : (backTo pos (starEach es X.env)).any (·.1) = false := by rfl) :
    EV X E (.Call (.Name x p) (e :: es) [] pos) (mCall ps.length mf dfl mr) := (pe_callG F hr hg hm hk hb hd hx ha hdb he hpl).imp fun σ H Q h => by
  obtain ⟨W, T, i, r, p⟩ := h
  refine (ta_bnd i r p).imp fun vs H1 q => ?_
  obtain ⟨ds, W1, T1, l1, i1, r1, v1, p1⟩ := q
  unfold callF at p1
  split at p1
  · rename_i hn
    rw [Bool.and_eq_true] at hn
    have hdf := hdd W1 i1
    have hrep : Reps (W1.guard T1 σ H1) (ds ++ dfl) (vs ++ dvs) := ((v1.reps hn.1).append hdf).mono' gd_lf
    exact ⟨W1.guard T1 σ H1, ds ++ dfl, T1.st, i1.K, i1.mg, r1.guard, hrep, of_decide_eq_true hn.2, call_post i1 r1 p1⟩
  · exact p1.elim
theorem ev_call0 (F : FnG X.prog X.w X.K X.mg X.base CX k f fd ps (spF X.K X.mg ps.length mf)) (hr : RoomG k X.A) (hg : Gl X x) (hm : X.mg x = some (.ref f)) (hk : PySem.W.keepIn X.K (.ref f) = true) (hb : Binds X.K fd ps ds) (hd : Vals dvs ds) (hdd : ∀ W, In X W → Reps W dfl dvs)
    (hx : Passes CX X E) (hdb : (x == ("__debug__" : Str)) = false := by decide) : EV X E (.Call (.Name x p) [] [] pos) (mCall ps.length mf dfl aNil) := (pe_callG0 F hr hg hm hk hb hd hx hdb).imp fun σ H Q h => by
  obtain ⟨W, T, i, r, p⟩ := h
  have p1 : post E W σ (callF ps.length mf dfl [] T) fun d W' H' => ∀ v, RepT W' σ d v → Q v H' := p
  unfold callF at p1
  split at p1
  · rename_i hn
    rw [Bool.and_eq_true] at hn
    have hrep : Reps (W.guard T σ H) ([] ++ dfl) ([] ++ dvs) := (hdd W i).mono' gd_lf
    exact ⟨W.guard T σ H, [] ++ dfl, T.st, i.K, i.mg, r.guard, hrep, of_decide_eq_true hn.2, call_post i r p1⟩
  · exact p1.elim
end
end FL

set_option Elab.async false
set_option linter.all false
set_option maxRecDepth 100000
set_option maxHeartbeats 4000000
set_option exponentiation.threshold 20000
/-! FL8: statements. -/
namespace FL
open PySem PySem.Spec PyProof.Rows L2

section
variable {W : Wd} {T : MT} {σ : L2.St} {H : Hp}
/-! ### how a frame changes -/
theorem Rel.setV (r : Rel W T σ H) {i : Nat} {d : D} {v : V} (hv : Rep W d v) : Rel W (FL.setV T i d) (σ.set i (some v)) H := by
  refine ⟨r.s, ⟨by simp [FL.setV, r.e.len], fun j e h => ?_, fun j mo h => ?_, fun j k mi mj a h1 h2 h3 h4 => ?_⟩⟩
  · have h : (T.env.set i (.val d))[j]? = some (.val e) := h
    by_cases hj : i = j
    · subst hj
      by_cases hl : i < T.env.length
      · rw [List.getElem?_set_self hl] at h
        cases h
        exact ⟨v, List.getElem?_set_self (by rw [← r.e.len]; exact hl), hv⟩
      · rw [List.getElem?_eq_none (by simpa using hl)] at h
        cases h
    · rw [List.getElem?_set_ne hj] at h
      rw [List.getElem?_set_ne hj]
      exact r.e.val j e h
  · have h : (T.env.set i (.val d))[j]? = some (.own mo) := h
    by_cases hj : i = j
    · subst hj
      by_cases hl : i < T.env.length
      · rw [List.getElem?_set_self hl] at h
        cases h
      · rw [List.getElem?_eq_none (by simpa using hl)] at h
        cases h
    · rw [List.getElem?_set_ne hj] at h
      rw [List.getElem?_set_ne hj]
      exact r.e.own j mo h
  · have ne : ∀ {l : Nat} {m : MO}, (T.env.set i (.val d))[l]? = some (.own m) → i ≠ l := fun {l m} h z => by
      subst z
      by_cases hl : i < T.env.length
      · rw [List.getElem?_set_self hl] at h
        cases h
      · rw [List.getElem?_eq_none (by simpa using hl)] at h
        cases h
    have e1 : i ≠ j := ne h1
    have e2 : i ≠ k := ne h2
    have h1 : (T.env.set i (.val d))[j]? = some (.own mi) := h1
    have h2 : (T.env.set i (.val d))[k]? = some (.own mj) := h2
    rw [List.getElem?_set_ne e1] at h1
    rw [List.getElem?_set_ne e2] at h2
    rw [List.getElem?_set_ne e1] at h3
    rw [List.getElem?_set_ne e2] at h4
    exact r.e.dist j k mi mj a h1 h2 h3 h4
/-- a new object, held by a slot alone -/
theorem Rel.newOwn (r : Rel W T σ H) {i : Nat} {p : Addr} {o : HO} {mo : MO} (hp : H p = none) (hm : MoRep W (upd H p o) p mo) : Rel W (setO T i mo) (σ.set i (some (.ref p))) (upd H p o) := by
  have x := r.ext (same_new (o := o) hp)
  have np : ∀ {a : Addr}, H a ≠ none → a ≠ p := fun h z => h (by rw [z]; exact hp)
  refine ⟨x.s, ⟨by simp [setO, r.e.len], fun j e h => ?_, fun j mo' h => ?_, fun j k mi mj a h1 h2 h3 h4 => ?_⟩⟩
  · have h : (T.env.set i (.own mo))[j]? = some (.val e) := h
    by_cases hj : i = j
    · subst hj
      by_cases hl : i < T.env.length
      · rw [List.getElem?_set_self hl] at h
        cases h
      · rw [List.getElem?_eq_none (by simpa using hl)] at h
        cases h
    · rw [List.getElem?_set_ne hj] at h
      rw [List.getElem?_set_ne hj]
      exact r.e.val j e h
  · have h : (T.env.set i (.own mo))[j]? = some (.own mo') := h
    by_cases hj : i = j
    · subst hj
      by_cases hl : i < T.env.length
      · rw [List.getElem?_set_self hl] at h
        cases h
        exact ⟨p, List.getElem?_set_self (by rw [← r.e.len]; exact hl), r.s.fF hp, r.s.fG hp, fun ha => r.s.th p ha hp, (by rw [upd_same]; exact Option.some_ne_none _), hm⟩
      · rw [List.getElem?_eq_none (by simpa using hl)] at h
        cases h
    · rw [List.getElem?_set_ne hj] at h
      rw [List.getElem?_set_ne hj]
      exact x.e.own j mo' h
  · have key : ∀ {l : Nat} {m : MO} {b : Addr}, (T.env.set i (.own mo))[l]? = some (.own m) → (σ.set i (some (.ref p)))[l]? = some (some (V.ref b)) → (l = i ∧ b = p) ∨ (l ≠ i ∧ T.env[l]? = some (.own m) ∧ σ[l]? = some (some (V.ref b)) ∧ b ≠ p) := fun {l m b} g1 g2 => by
      by_cases hj : i = l
      · subst hj
        by_cases hl : i < T.env.length
        · rw [List.getElem?_set_self (by rw [← r.e.len]; exact hl)] at g2
          cases g2
          exact .inl ⟨rfl, rfl⟩
        · rw [List.getElem?_eq_none (by simpa using hl)] at g1
          cases g1
      · rw [List.getElem?_set_ne hj] at g1 g2
        obtain ⟨b', q1, _, _, _, q5, _⟩ := r.e.own l m g1
        rw [g2] at q1
        cases q1
        exact .inr ⟨fun z => hj z.symm, g1, g2, np q5⟩
    rcases key h1 h3 with ⟨e1, e2⟩ | ⟨e1, g1, g2, e2⟩
    · rcases key h2 h4 with ⟨e3, e4⟩ | ⟨e3, g3, g4, e4⟩
      · rw [e1, e3]
      · exact absurd e2 e4
    · rcases key h2 h4 with ⟨e3, e4⟩ | ⟨e3, g3, g4, e4⟩
      · exact absurd e4 e2
      · exact r.e.dist j k mi mj a g1 g3 g2 g4
/-- another object at the own address of a slot -/
theorem Rel.mutOwn (r : Rel W T σ H) {i : Nat} {a : Addr} {o : HO} {mo mo' : MO} (h : T.env[i]? = some (.own mo)) (ha : σ[i]? = some (some (.ref a))) (hm : MoRep W (upd H a o) a mo') : Rel W (setO T i mo') σ (upd H a o) := by
  obtain ⟨b, g1, g2, g3, g4, g5, g6⟩ := r.e.own i mo h
  rw [ha] at g1
  cases g1
  have keep : ∀ {c : Addr}, c ≠ a → upd H a o c = H c := fun z => upd_ne z
  have hl : i < T.env.length := (List.getElem?_eq_some_iff.mp h).1
  refine ⟨⟨fun c u e => ?_, fun c u e => ?_, r.s.len, r.s.nd, fun c hc => ?_, r.s.FG, r.s.asG, fun n c mc e1 e2 e3 => ?_⟩, ⟨by simp [setO, r.e.len], fun j e q => ?_, fun j mj q => ?_, fun j k mi mj c h1 h2 h3 h4 => ?_⟩⟩
  · rw [keep fun z => by rw [z, g2] at e; cases e]
    exact r.s.F c u e
  · rw [keep fun z => by rw [z, g3] at e; cases e]
    exact r.s.G c u e
  · rw [keep fun z => g4 (by rw [← z]; exact hc)]
    exact r.s.th c hc
  · obtain ⟨q1, q2, q3⟩ := r.s.obj n c mc e1 e2 e3
    exact ⟨q1, q2, q3.mono (Wd.le.refl W) (keep fun z => g4 (by rw [← z]; exact List.mem_of_getElem? e1))⟩
  · have q : (T.env.set i (.own mo'))[j]? = some (.val e) := q
    by_cases hj : i = j
    · subst hj
      rw [List.getElem?_set_self hl] at q
      cases q
    · rw [List.getElem?_set_ne hj] at q
      exact r.e.val j e q
  · have q : (T.env.set i (.own mo'))[j]? = some (.own mj) := q
    by_cases hj : i = j
    · subst hj
      rw [List.getElem?_set_self hl] at q
      cases q
      exact ⟨a, ha, g2, g3, g4, (by rw [upd_same]; exact Option.some_ne_none _), hm⟩
    · rw [List.getElem?_set_ne hj] at q
      obtain ⟨c, q1, q2, q3, q4, q5, q6⟩ := r.e.own j mj q
      have hc : c ≠ a := fun z => hj (r.e.dist i j mo mj a h q ha (by rw [← z]; exact q1))
      exact ⟨c, q1, q2, q3, q4, by rw [keep hc]; exact q5, q6.mono (Wd.le.refl W) (keep hc)⟩
  · have sl : ∀ {l : Nat} {m : MO}, (T.env.set i (.own mo'))[l]? = some (.own m) → ∃ m', T.env[l]? = some (.own m') := fun {l m} g => by
      by_cases hj : i = l
      · subst hj
        exact ⟨mo, h⟩
      · rw [List.getElem?_set_ne hj] at g
        exact ⟨m, g⟩
    obtain ⟨m1, k1⟩ := sl h1
    obtain ⟨m2, k2⟩ := sl h2
    exact r.e.dist j k m1 m2 c k1 k2 h3 h4
/-- another object at a mutable object's address -/
theorem Rel.mutObj (r : Rel W T σ H) {n : Nat} {a : Addr} {o : HO} {mo mo' : MO} (h : T.st[n]? = some mo) (hg : notGone mo = true) (ha : W.as[n]? = some a) (hm : MoRep W (upd H a o) a mo') : Rel W (setS T n mo') σ (upd H a o) := by
  obtain ⟨g2, g3, g6⟩ := r.s.obj n a mo ha h hg
  have keep : ∀ {c : Addr}, c ≠ a → upd H a o c = H c := fun z => upd_ne z
  have hl : n < T.st.length := (List.getElem?_eq_some_iff.mp h).1
  refine ⟨⟨fun c u e => ?_, fun c u e => ?_, by simp [setS, r.s.len], r.s.nd, fun c hc => ?_, r.s.FG, r.s.asG, fun m c mc e1 e2 e3 => ?_⟩, ⟨r.e.len, r.e.val, fun j mj q => ?_, r.e.dist⟩⟩
  · rw [keep fun z => by rw [z, g2] at e; cases e]
    exact r.s.F c u e
  · rw [keep fun z => by rw [z, g3] at e; cases e]
    exact r.s.G c u e
  · by_cases hc' : c = a
    · rw [hc', upd_same]
      exact Option.some_ne_none _
    · rw [keep hc']
      exact r.s.th c hc
  · have e2 : (T.st.set n mo')[m]? = some mc := e2
    by_cases hm' : n = m
    · subst hm'
      rw [List.getElem?_set_self hl] at e2
      cases e2
      rw [ha] at e1
      cases e1
      exact ⟨g2, g3, hm⟩
    · rw [List.getElem?_set_ne hm'] at e2
      obtain ⟨q1, q2, q3⟩ := r.s.obj m c mc e1 e2 e3
      have hc : c ≠ a := fun z => hm' ((List.getElem?_inj (List.getElem?_eq_some_iff.mp ha).1 r.s.nd).mp (ha.trans (by rw [e1, z])))
      exact ⟨q1, q2, q3.mono (Wd.le.refl W) (keep hc)⟩
  · obtain ⟨c, q1, q2, q3, q4, q5, q6⟩ := r.e.own j mj q
    have hc : c ≠ a := fun z => q4 (by rw [z]; exact List.mem_of_getElem? ha)
    exact ⟨c, q1, q2, q3, q4, by rw [keep hc]; exact q5, q6.mono (Wd.le.refl W) (keep hc)⟩
/-- a new mutable object -/
theorem Rel.newObj (r : Rel W T σ H) {p : Addr} {o : HO} {mo : MO} (hp : H p = none) (hm : MoRep W (upd H p o) p mo) :
    W.le { W with as := W.as ++ [p] } ∧ Rel { W with as := W.as ++ [p] } { T with st := T.st ++ [mo] } σ (upd H p o) := by
  have le : W.le { W with as := W.as ++ [p] } := ⟨⟨rfl, rfl, ⟨[p], rfl⟩, Same.refl _⟩, rfl⟩
  have x := r.ext (same_new (o := o) hp)
  have ns : p ∉ W.as := fun ha => r.s.th p ha hp
  refine ⟨le, ⟨⟨x.s.F, x.s.G, by simp [r.s.len], ?_, fun a ha => ?_, r.s.FG, fun a ha => ?_, fun n a mc e1 e2 e3 => ?_⟩, ⟨r.e.len, fun j e q => ?_, fun j mj q => ?_, r.e.dist⟩⟩⟩
  · rw [List.nodup_append]
    exact ⟨r.s.nd, by simp, fun a ha b hb z => ns (by rw [List.mem_singleton.mp hb] at z; rw [← z]; exact ha)⟩
  · rcases List.mem_append.mp ha with ha | ha
    · exact x.s.th a ha
    · rw [List.mem_singleton.mp ha, upd_same]
      exact Option.some_ne_none _
  · rcases List.mem_append.mp ha with ha | ha
    · exact r.s.asG a ha
    · rw [List.mem_singleton.mp ha]
      exact r.s.fG hp
  · by_cases hn : n < W.as.length
    · have e1 : (W.as ++ [p])[n]? = some a := e1
      have e2 : (T.st ++ [mo])[n]? = some mc := e2
      rw [List.getElem?_append_left hn] at e1
      rw [List.getElem?_append_left (by rw [← r.s.len]; exact hn)] at e2
      obtain ⟨q1, q2, q3⟩ := x.s.obj n a mc e1 e2 e3
      exact ⟨q1, q2, q3.mono le rfl⟩
    · have e1 : (W.as ++ [p])[n]? = some a := e1
      have e2 : (T.st ++ [mo])[n]? = some mc := e2
      rw [List.getElem?_append_right (by omega)] at e1
      rw [List.getElem?_append_right (by rw [← r.s.len]; omega), ← r.s.len] at e2
      have hz : n - W.as.length = 0 := by
        cases q : n - W.as.length with
        | zero => rfl
        | succ m => rw [q] at e1; simp at e1
      rw [hz] at e1 e2
      cases e1
      cases e2
      exact ⟨r.s.fF hp, r.s.fG hp, hm.mono le rfl⟩
  · obtain ⟨v, h1, h2⟩ := r.e.val j e q
    exact ⟨v, h1, h2.mono le⟩
  · obtain ⟨c, q1, q2, q3, q4, q5, q6⟩ := x.e.own j mj q
    obtain ⟨c', q1', _, _, _, q5', _⟩ := r.e.own j mj q
    rw [q1] at q1'
    cases q1'
    refine ⟨c, q1, q2, q3, fun ha => ?_, q5, q6.mono le rfl⟩
    rcases List.mem_append.mp ha with ha | ha
    · exact q4 ha
    · rw [List.mem_singleton.mp ha] at q5'
      exact q5' hp
/-- a slot's own object is from now on nobody's -/
theorem Rel.frz (r : Rel W T σ H) {i : Nat} {mo : MO} {d : D} {a : Addr} {o : HO} (h : T.env[i]? = some (.own mo)) (ha : σ[i]? = some (some (.ref a))) (ho : H a = some o) (hd : Rep { W with F := upd W.F a o } d (.ref a)) :
    W.le { W with F := upd W.F a o } ∧ Rel { W with F := upd W.F a o } (FL.setV T i d) σ H := by
  obtain ⟨b, g1, g2, g3, g4, g5, g6⟩ := r.e.own i mo h
  rw [ha] at g1
  cases g1
  have le : W.le { W with F := upd W.F a o } := ⟨⟨rfl, rfl, ⟨[], (List.append_nil _).symm⟩, fun c u e => by
    show upd W.F a o c = some u
    rw [upd_ne fun z => by rw [z, g2] at e; cases e]
    exact e⟩, rfl⟩
  have hl : i < T.env.length := (List.getElem?_eq_some_iff.mp h).1
  have keep : ∀ {c : Addr}, c ≠ a → upd W.F a o c = W.F c := fun z => upd_ne z
  refine ⟨le, ⟨⟨fun c u e => ?_, r.s.G, r.s.len, r.s.nd, r.s.th, fun c hc => ?_, r.s.asG, fun m c mc e1 e2 e3 => ?_⟩, ⟨by simp [FL.setV, r.e.len], fun j e q => ?_, fun j mj q => ?_, fun j k mi mj c h1 h2 h3 h4 => ?_⟩⟩⟩
  · have e : upd W.F a o c = some u := e
    by_cases hc : c = a
    · rw [hc, upd_same] at e
      rw [hc]
      exact ho.trans e
    · rw [keep hc] at e
      exact r.s.F c u e
  · show upd W.F a o c = none
    rw [keep fun z => hc (by rw [z]; exact g3)]
    exact r.s.FG c hc
  · obtain ⟨q1, q2, q3⟩ := r.s.obj m c mc e1 e2 e3
    refine ⟨?_, q2, q3.mono le rfl⟩
    show upd W.F a o c = none
    rw [keep fun z => g4 (by rw [← z]; exact List.mem_of_getElem? e1)]
    exact q1
  · have q : (T.env.set i (.val d))[j]? = some (.val e) := q
    by_cases hj : i = j
    · subst hj
      rw [List.getElem?_set_self hl] at q
      cases q
      exact ⟨_, ha, hd⟩
    · rw [List.getElem?_set_ne hj] at q
      obtain ⟨v, h1, h2⟩ := r.e.val j e q
      exact ⟨v, h1, h2.mono le⟩
  · have q : (T.env.set i (.val d))[j]? = some (.own mj) := q
    by_cases hj : i = j
    · subst hj
      rw [List.getElem?_set_self hl] at q
      cases q
    · rw [List.getElem?_set_ne hj] at q
      obtain ⟨c, q1, q2, q3, q4, q5, q6⟩ := r.e.own j mj q
      refine ⟨c, q1, ?_, q3, q4, q5, q6.mono le rfl⟩
      show upd W.F a o c = none
      rw [keep fun z => hj (r.e.dist i j mo mj a h q ha (by rw [← z]; exact q1))]
      exact q2
  · have sl : ∀ {l : Nat} {m : MO}, (T.env.set i (.val d))[l]? = some (.own m) → T.env[l]? = some (.own m) := fun {l m} g => by
      by_cases hj : i = l
      · subst hj
        rw [List.getElem?_set_self hl] at g
        cases g
      · rw [List.getElem?_set_ne hj] at g
        exact g
    exact r.e.dist j k mi mj c (sl h1) (sl h2) h3 h4
end
end FL

set_option Elab.async false
set_option linter.all false
set_option maxRecDepth 100000
set_option maxHeartbeats 4000000
set_option exponentiation.threshold 20000
/-! FL9: statements by their mirrors. -/
namespace FL
open PySem PySem.Spec PyProof.Rows L2

/-- what is wanted of a statement's outcome -/
def spost (E : XK) (D : Ends) (W : Wd) (o : SO) : Prop := match o with
  | .nx T => ∀ W' σ' H', W.le W' → Rel W' T σ' H' → D.nx σ' H'
  | .rt d T => ∀ W' H' v, W.le W' → RelS W' T.st H' → Rep W' d v → D.rt v H'
  | .bk T => ∀ W' σ' H', W.le W' → Rel W' T σ' H' → D.bk σ' H'
  | .ct T => ∀ W' σ' H', W.le W' → Rel W' T σ' H' → D.ct σ' H'
  | .exc c fs T => ∀ W' H' C dx vs, W.le W' → RelS W' T.st H' → W.mg c = some (.ref C) → H' dx = some (.xd ((fs.map (·.1)).zip vs)) → Reps W' (fs.map (·.2)) vs → E (.ref C) (some dx) H'
  | .stuck => False
theorem spost.le {E : XK} {D : Ends} {W W1 : Wd} {o : SO} (h : W.le W1) (p : spost E D W o) : spost E D W1 o := by
  cases o with
  | nx T => exact fun W' σ' H' l r => p W' σ' H' (h.trans l) r
  | rt d T => exact fun W' H' v l r => p W' H' v (h.trans l) r
  | bk T => exact fun W' σ' H' l r => p W' σ' H' (h.trans l) r
  | ct T => exact fun W' σ' H' l r => p W' σ' H' (h.trans l) r
  | exc c fs T => exact fun W' H' C dx vs l r m => p W' H' C dx vs (h.trans l) r (by rw [← h.mg]; exact m)
  | stuck => exact p
/-- a statement's reading by its mirror -/
def ts (X : Cx) (E : XK) (m : MS) : TS := fun D σ H => ∃ W T, In X W ∧ Rel W T σ H ∧ spost E D W (m T)
abbrev SV (X : Cx) (E : XK) (st : Stmt) (m : MS) : Prop := PS X st (ts X E m)
abbrev BV' (X : Cx) (E : XK) (sts : List Stmt) (m : MS) : Prop := PSs X sts (ts X E m)

section
variable {X : Cx} {E : XK} {e a b c : Expr} {es : List Expr} {st : Stmt} {rest : List Stmt} {ma mb : M D} {mr : M (List D)} {mt : M Bool} {m1 m2 : MS} {pos : Pos}
/-- the outcome of an expression, then a statement's -/
theorem spost_of {α : Type} {D : Ends} {W : Wd} {σ : L2.St} {o : Out α} {k : α → MS} (p : spost E D W (sOf o k)) : post E W σ o fun a W1 H1 => ∃ T1, Rel W1 T1 σ H1 ∧ spost E D W1 (k a T1) := by
  cases o with
  | ok a T => exact fun W1 H1 l r => ⟨T, r, p.le l⟩
  | exc c fs T => exact p
  | stuck => exact p
theorem sm_bnd {D : Ends} {k : FL.D → MS} {σ : L2.St} {H : Hp} {W : Wd} {T : MT} (i : In X W) (r : Rel W T σ H) (p : spost E D W (sOf (ma T) k)) :
    tm X E ma σ H fun v H1 => ∃ d W1 T1, W.le W1 ∧ In X W1 ∧ Rel W1 T1 σ H1 ∧ RepT W1 σ d v ∧ spost E D W1 (k d T1) :=
  ⟨W, T, i, r, (spost_of p).imp fun d W1 H1 l ⟨T1, r1, p1⟩ v hv => ⟨d, W1, T1, l, i.le l, r1, hv, p1⟩⟩
theorem st_bnd {D : Ends} {k : Bool → MS} {σ : L2.St} {H : Hp} {W : Wd} {T : MT} (i : In X W) (r : Rel W T σ H) (p : spost E D W (sOf (mt T) k)) :
    tt X E mt σ H fun b H1 => ∃ W1 T1, W.le W1 ∧ In X W1 ∧ Rel W1 T1 σ H1 ∧ spost E D W1 (k b T1) :=
  ⟨W, T, i, r, (spost_of p).imp fun d W1 H1 l ⟨T1, r1, p1⟩ => ⟨W1, T1, l, i.le l, r1, p1⟩⟩
theorem sa_bnd {D : Ends} {k : List FL.D → MS} {σ : L2.St} {H : Hp} {W : Wd} {T : MT} (i : In X W) (r : Rel W T σ H) (p : spost E D W (sOf (mr T) k)) :
    ta X E mr σ H fun vs H1 => ∃ ds W1 T1, W.le W1 ∧ In X W1 ∧ Rel W1 T1 σ H1 ∧ RepTs W1 σ ds vs ∧ spost E D W1 (k ds T1) :=
  ⟨W, T, i, r, (spost_of p).imp fun d W1 H1 l ⟨T1, r1, p1⟩ v hv => ⟨d, W1, T1, l, i.le l, r1, hv, p1⟩⟩
theorem snx {D : Ends} {W : Wd} {T : MT} {σ : L2.St} {H : Hp} (r : Rel W T σ H) (p : spost E D W (.nx T)) : D.nx σ H := p W σ H (Wd.le.refl W) r

theorem sv_nil : BV' X E [] sSkip := pss_nil.imp fun D σ H h => by
  obtain ⟨W, T, i, r, p⟩ := h
  exact snx r p
theorem sv_pass : SV X E (.Pass pos) sSkip := ps_pass.imp fun D σ H h => by
  obtain ⟨W, T, i, r, p⟩ := h
  exact snx r p
theorem sv_break : SV X E (.Break pos) (fun T => .bk T) := ps_break.imp fun D σ H h => by
  obtain ⟨W, T, i, r, p⟩ := h
  exact p W σ H (Wd.le.refl W) r
theorem sv_continue : SV X E (.Continue pos) (fun T => .ct T) := ps_continue.imp fun D σ H h => by
  obtain ⟨W, T, i, r, p⟩ := h
  exact p W σ H (Wd.le.refl W) r
theorem sv_one (h : SV X E st m1) : BV' X E [st] m1 := pss_one h
theorem sv_cons (h : SV X E st m1) (k : BV' X E rest m2) : BV' X E (st :: rest) (sSeq m1 m2) := (pss_cons h k).imp fun D σ H q => by
  obtain ⟨W, T, i, r, p⟩ := q
  refine ⟨W, T, i, r, ?_⟩
  unfold sSeq at p
  cases h : m1 T with
  | nx T' =>
    rw [h] at p
    exact fun W' σ' H' l r' => ⟨W', T', i.le l, r', p.le l⟩
  | rt d T' => rw [h] at p; exact p
  | bk T' => rw [h] at p; exact p
  | ct T' => rw [h] at p; exact p
  | exc c fs T' => rw [h] at p; exact p
  | stuck => rw [h] at p; exact p
theorem sv_never : SV X E st (fun _ => .stuck) := ps_never.imp fun D σ H h => by
  obtain ⟨W, T, i, r, p⟩ := h
  exact p
theorem sv_ret (ha : EV X E a ma) : SV X E (.Return (some a) pos) (sRet ma) := (ps_ret ha).imp fun D σ H h => by
  obtain ⟨W, T, i, r, p⟩ := h
  refine (sm_bnd i r p).imp fun v H1 q => ?_
  obtain ⟨d, W1, T1, l, i1, r1, hv, p1⟩ := q
  cases ht : isTmp d with
  | true =>
    rw [ht] at p1
    exact p1.elim
  | false =>
    rw [ht] at p1
    exact p1 W1 H1 v (Wd.le.refl _) r1.s (hv.rep ht)
theorem sv_retN : SV X E (.Return none pos) sRetN := ps_retN.imp fun D σ H h => by
  obtain ⟨W, T, i, r, p⟩ := h
  exact p W H .non (Wd.le.refl _) r.s (by simp only [Rep])
theorem sv_if {xs ys : List Stmt} (hc : BV X E c mt) (ha : BV' X E xs m1) (hb : BV' X E ys m2) : SV X E (.If c xs ys pos) (sIf mt m1 m2) := (ps_if hc ha hb).imp fun D σ H h => by
  obtain ⟨W, T, i, r, p⟩ := h
  refine (st_bnd i r p).imp fun b H1 q => ?_
  obtain ⟨W1, T1, l, i1, r1, p1⟩ := q
  cases b with
  | true => exact ⟨W1, T1, i1, r1, p1⟩
  | false => exact ⟨W1, T1, i1, r1, p1⟩
theorem sv_expr (ha : EV X E a ma) (hs : swapsWith a none pos.line X.env = pure false := by rfl) : SV X E (.Expr a pos) (sExpr ma) := (ps_expr ha hs).imp fun D σ H h => by
  obtain ⟨W, T, i, r, p⟩ := h
  refine (sm_bnd i r p).imp fun v H1 q => ?_
  obtain ⟨d, W1, T1, l, i1, r1, hv, p1⟩ := q
  exact snx r1 p1
theorem sv_doc {x j p1 p2} : SV X E (.Expr (.Constant (.str x) j p1) p2) sSkip := ps_doc.imp fun D σ H h => by
  obtain ⟨W, T, i, r, p⟩ := h
  exact snx r p
theorem set_run {i : Nat} {D : Ends} {σ : L2.St} {H : Hp} (h : ts X E (sSet i ma) D σ H) : tAsg (tm X E ma) (gName i) D σ H := by
  obtain ⟨W, T, iw, r, p⟩ := h
  refine (sm_bnd iw r p).imp fun v H1 q => ?_
  obtain ⟨d, W1, T1, l, i1, r1, hv, p1⟩ := q
  cases ht : isTmp d with
  | true =>
    rw [ht] at p1
    exact p1.elim
  | false =>
    rw [ht] at p1
    exact snx (r1.setV (hv.rep ht)) p1
theorem sv_set (i : Nat) {x : Str} {pos' : Pos} (hN : X.N.Nodup) (hi : X.N[i]? = some x) (hx : Loc X.env.scope x) (ha : EV X E a ma) (hs : swapsWith a (some (.Name x pos')) pos.line X.env = pure false := by rfl)
    (hf : X.fn x = true ∨ X.env.scope.names.lookup x = some .local := by first | exact .inl rfl | exact .inr rfl) : SV X E (.Assign [.Name x pos'] a pos) (sSet i ma) := (ps_set hN hi hx ha hs hf).imp fun D σ H h => set_run h

/-! ### targets -/
/-- alike but for some slots -/
def SameOff (ws : List Nat) (σ σ' : L2.St) : Prop := σ'.length = σ.length ∧ ∀ i, i ∉ ws → σ'[i]? = σ[i]?
theorem SameOff.refl (ws : List Nat) (σ : L2.St) : SameOff ws σ σ := ⟨rfl, fun _ _ => rfl⟩
theorem SameOff.set {σ : L2.St} {i : Nat} {v : Option V} : SameOff [i] σ (σ.set i v) := ⟨List.length_set .., fun j h => List.getElem?_set_ne (fun z => h (by rw [z]; exact List.mem_singleton_self _))⟩
theorem SameOff.trans {a b : List Nat} {σ σ1 σ2 : L2.St} (h : SameOff a σ σ1) (k : SameOff b σ1 σ2) : SameOff (a ++ b) σ σ2 :=
  ⟨k.1.trans h.1, fun i hi => (k.2 i fun z => hi (List.mem_append_right _ z)).trans (h.2 i fun z => hi (List.mem_append_left _ z))⟩
def gt (X : Cx) (E : XK) (ws : List Nat) (g : Tg) : TG := fun v σ H Q => ∃ d W T, In X W ∧ Rel W T σ H ∧ RepT W σ d v ∧ ∃ T', g d T = some T' ∧ ∀ W' σ' H', W.le W' → Rel W' T' σ' H' → SameOff ws σ σ' → Q σ' H'
def gts (X : Cx) (E : XK) (ws : List Nat) (g : Tgs) : TGs := fun vs σ H Q => ∃ ds W T, In X W ∧ Rel W T σ H ∧ Reps W ds vs ∧ ∃ T', g ds T = some T' ∧ ∀ W' σ' H', W.le W' → Rel W' T' σ' H' → SameOff ws σ σ' → Q σ' H'
abbrev GV (X : Cx) (E : XK) (ws : List Nat) (e : Expr) (g : Tg) : Prop := PG X e (gt X E ws g)
abbrev GVs (X : Cx) (E : XK) (ws : List Nat) (es : List Expr) (g : Tgs) : Prop := PGs X es (gts X E ws g)
theorem _root_.L2.PG.imp {t t' : TG} (h : PG X e t) (k : ∀ v σ H Q, t' v σ H Q → t v σ H Q) : PG X e t' := ⟨fun pins s σ H v u Q I r q => h.run pins s σ H v u Q I r (k v σ H Q q)⟩
theorem _root_.L2.PGs.imp {t t' : TGs} (h : PGs X es t) (k : ∀ v σ H Q, t' v σ H Q → t v σ H Q) : PGs X es t' := ⟨fun pins s σ H v u Q I r q => h.run pins s σ H v u Q I r (k v σ H Q q)⟩
theorem gv_nm (i : Nat) {x : Str} (hN : X.N.Nodup) (hi : X.N[i]? = some x) (hx : Loc X.env.scope x) (hf : X.fn x = true ∨ X.env.scope.names.lookup x = some .local := by first | exact .inl rfl | exact .inr rfl) : GV X E [i] (.Name x pos) (gNm i) :=
  (pg_name hN hi hx hf).imp fun v σ H Q h => by
    obtain ⟨d, W, T, iw, r, hv, T', e, q⟩ := h
    unfold gNm at e
    cases ht : isTmp d with
    | true => rw [ht] at e; cases e
    | false =>
      rw [ht] at e
      cases e
      exact q W _ H (Wd.le.refl W) (r.setV (hv.rep ht)) .set
theorem gvs_nil : GVs X E [] [] gNil := pgs_nil.imp fun vs σ H Q h => by
  obtain ⟨ds, W, T, iw, r, hv, T', e, q⟩ := h
  cases ds with
  | nil =>
    cases e
    exact ⟨hv.invN, q W σ H (Wd.le.refl W) r (.refl _ _)⟩
  | cons d ds => cases e
theorem gvs_cons {g : Tg} {gs : Tgs} {wa wb : List Nat} (h1 : GV X E wa e g) (h2 : GVs X E wb es gs) (hs : (assignEach (e :: es) X.env).map (·.2) = assign e X.env :: (assignEach es X.env).map (·.2) := by rfl) : GVs X E (wa ++ wb) (e :: es) (gCons g gs) := (pgs_cons h1 h2 hs).imp fun vs σ H Q h => by
  obtain ⟨ds, W, T, iw, r, hv, T', e, q⟩ := h
  cases ds with
  | nil => cases e
  | cons d ds =>
    obtain ⟨v, rr, rfl, r1, r2⟩ := hv.inv
    cases h : g d T with
    | none =>
      have e : (g d T).bind (gs ds) = some T' := e
      rw [h] at e
      cases e
    | some T1 =>
      have e : (g d T).bind (gs ds) = some T' := e
      rw [h] at e
      exact ⟨v, rr, rfl, d, W, T, iw, r, .of r1, T1, h, fun W1 σ1 H1 l r' so => ⟨ds, W1, T1, iw.le l, r', r2.mono l, T', e, fun W' σ' H' l' r'' so' => q W' σ' H' (l.trans l') r'' (so.trans so')⟩⟩
theorem Reps.len {W : Wd} {ds : List FL.D} {vs : List V} (h : Reps W ds vs) : vs.length = ds.length := h.length
/-- how many things a target takes -/
def takesN (gs : Tgs) (n : Nat) : Prop := ∀ ds T T', gs ds T = some T' → ds.length = n
theorem takes_nil : takesN gNil 0 := fun ds T T' h => by
  cases ds with
  | nil => rfl
  | cons => cases h
theorem takes_cons {g : Tg} {gs : Tgs} {n : Nat} (h : takesN gs n) : takesN (gCons g gs) (n + 1) := fun ds T T' e => by
  cases ds with
  | nil => cases e
  | cons d ds =>
    have e : (g d T).bind (gs ds) = some T' := e
    cases q : g d T with
    | none => rw [q] at e; cases e
    | some T1 =>
      rw [q] at e
      rw [List.length_cons, h ds T1 T' e]
theorem gv_tp {k n : Nat} {gs : Tgs} {ws : List Nat} (hc : X.calm = true) (h : GVs X E ws es gs) (ht : takesN gs n) (hn : (assignEach es X.env).length = n := by rfl) (hst : (assignEach es X.env).findIdx? (·.1) = none := by rfl) : GV X E ws (.Tuple es k pos) (gTp gs) :=
  (pg_tup hc h hn hst).imp fun v σ H Q h => by
    obtain ⟨d, W, T, iw, r, hv, T', e, q⟩ := h
    unfold gTp at e
    split at e
    · rename_i xs
      obtain ⟨a, vs, rfl, s, t⟩ := r.vTup hv rfl
      exact ⟨a, vs, rfl, by rw [← iw.K]; exact s, by rw [t.length]; exact ht _ _ _ e, xs, W, T, iw, r, t, T', e, q⟩
    · cases e
theorem gv_ls {k n : Nat} {gs : Tgs} {ws : List Nat} (hc : X.calm = true) (h : GVs X E ws es gs) (ht : takesN gs n) (hn : (assignEach es X.env).length = n := by rfl) (hst : (assignEach es X.env).findIdx? (·.1) = none := by rfl) : GV X E ws (.Tuple es k pos) (gLs gs) :=
  (pg_unl hc h hn hst).imp fun v σ H Q h => by
    obtain ⟨d, W, T, iw, r, hv, T', e, q⟩ := h
    unfold gLs at e
    split at e
    · rename_i xs hx
      obtain ⟨a, vs, rfl, s, _, t⟩ := r.seqL hv hx
      exact ⟨a, vs, rfl, by rw [← iw.K]; exact s, by rw [t.length]; exact ht _ _ _ e, xs, W, T, iw, r, t, T', e, q⟩
    · cases e
theorem sv_asg {g : Tg} {ws : List Nat} (ha : EV X E a ma) (hg : GV X E ws e g) (hs : swapsWithSole [e] a pos.line X.env = pure false := by rfl) (hw : swappedStores [e] a X.env = pure none := by rfl) (h1 : (assignEach [e] X.env).map (·.2) = [assign e X.env] := by rfl) :
    SV X E (.Assign [e] a pos) (sAsg ma g) := (ps_asg ha hg hs hw h1).imp fun D σ H h => by
  obtain ⟨W, T, iw, r, p⟩ := h
  refine (sm_bnd iw r p).imp fun v H1 q => ?_
  obtain ⟨d, W1, T1, l, i1, r1, hv, p1⟩ := q
  cases hg : g d T1 with
  | none => rw [hg] at p1; exact p1.elim
  | some T' =>
    rw [hg] at p1
    exact ⟨d, W1, T1, i1, r1, hv, T', hg, fun W' σ' H' l r' _ => snx r' (p1.le l)⟩
/-- a, b = e, f -/
theorem sv_par (i j : Nat) {x y : Str} {px py pt : Pos} {kt k2 pt2} (hc : X.calm = true) (hN : X.N.Nodup) (hi : X.N[i]? = some x) (hj : X.N[j]? = some y) (hij : i ≠ j)
    (hx : X.env.scope.names.lookup x = some .local) (hy : X.env.scope.names.lookup y = some .local) (ha : AV X E [a, b] mr)
    (hw : swappedStores [.Tuple [.Name x px, .Name y py] kt pt] (.Tuple [a, b] k2 pt2) X.env = pure (some [x, y]) := by rfl)
    (hs : swapsWithSole [.Tuple [.Name x px, .Name y py] kt pt] (.Tuple [a, b] k2 pt2) pos.line X.env = pure false := by rfl) : SV X E (.Assign [.Tuple [.Name x px, .Name y py] kt pt] (.Tuple [a, b] k2 pt2) pos) (sPar i j mr) :=
  (ps_par hc hN hi hj hij hx hy ha hw hs).imp fun D σ H h => by
    obtain ⟨W, T, iw, r, p⟩ := h
    refine (sa_bnd iw r p).imp fun vs H1 q => ?_
    obtain ⟨ds, W1, T1, l, i1, r1, hv, p1⟩ := q
    split at p1
    · rename_i d1 d2
      obtain ⟨v, w, rfl, h1, h2⟩ := hv.two
      cases ht : isTmp d1 || isTmp d2 with
      | true => rw [ht] at p1; exact p1.elim
      | false =>
        rw [ht] at p1
        rw [Bool.or_eq_false_iff] at ht
        exact ⟨v, w, rfl, snx ((r1.setV (h1.rep ht.1)).setV (h2.rep ht.2)) p1⟩
    · exact p1.elim

/-! ### new lists -/
/-- a new list's reading: its things; whoever takes the list may keep it for itself -/
def tf (X : Cx) (E : XK) (m : M (List FL.D)) : TE := fun σ H Q => ∃ W T, In X W ∧ Rel W T σ H ∧ post E W σ (m T) fun ds W' H' => ∀ p vs, H' p = none → Reps W' ds vs → Q (.ref p) (upd H' p (.lst vs))
abbrev EF (X : Cx) (E : XK) (e : Expr) (m : M (List FL.D)) : Prop := PE X e (tf X E m)
theorem ef_lst (ha : AV X E es mr) : EF X E (.List es pos) (fLst mr) := (pe_lst ha).imp fun σ H Q h => by
  obtain ⟨W, T, i, r, p⟩ := h
  refine (ta_bnd i r p).imp fun vs H1 q => ?_
  obtain ⟨ds, W1, T1, l1, i1, r1, v1, p1⟩ := q
  obtain ⟨z, e, k⟩ := post_lift r1 p1
  split at e
  · rename_i h
    rw [Bool.and_eq_true] at h
    cases e
    have t := v1.reps h.1
    exact ⟨by rw [t.length]; exact sz_line (of_decide_eq_true h.2), fun p hp => k W1 H1 (Wd.le.refl _) r1 p vs hp t⟩
  · cases e
/-- .. kept by nobody -/
theorem ev_vL {m : M (List FL.D)} (h : EF X E e m) : EV X E e (vL m) := h.imp fun σ H Q q => by
  obtain ⟨W, T, i, r, p⟩ := q
  refine ⟨W, T, i, r, (post_bnd p).imp fun ds W1 H1 l ⟨T1, r1, p1⟩ p vs hp hr => ?_⟩
  exact p1 _ _ (r1.putLe hp) (r1.put hp) _ (mkLst put_F (hr.mono (r1.putLe hp)))
/-- .. a mutable object -/
theorem ev_aL {m : M (List FL.D)} (h : EF X E e m) : EV X E e (aL m) := h.imp fun σ H Q q => by
  obtain ⟨W, T, i, r, p⟩ := q
  refine ⟨W, T, i, r, (post_bnd p).imp fun ds W1 H1 l ⟨T1, r1, p1⟩ p vs hp hr => ?_⟩
  obtain ⟨le, r2⟩ := r1.newObj (o := .lst vs) (mo := .lst ds) hp ⟨vs, upd_same, hr⟩
  refine p1 _ _ le r2 _ ?_
  show Rep _ (.obj _) _
  simp only [Rep]
  refine ⟨p, ?_, rfl⟩
  rw [← r1.s.len, List.getElem?_append_right (Nat.le_refl _), Nat.sub_self]
  rfl
/-- x = .., kept by the slot -/
theorem sv_own (i : Nat) {x : Str} {pos' : Pos} {m : M (List FL.D)} (hN : X.N.Nodup) (hi : X.N[i]? = some x) (hx : Loc X.env.scope x) (ha : EF X E a m) (hs : swapsWith a (some (.Name x pos')) pos.line X.env = pure false := by rfl)
    (hf : X.fn x = true ∨ X.env.scope.names.lookup x = some .local := by first | exact .inl rfl | exact .inr rfl) : SV X E (.Assign [.Name x pos'] a pos) (sOwn i m) := (ps_set hN hi hx ha hs hf).imp fun D σ H h => by
  obtain ⟨W, T, iw, r, p⟩ := h
  exact ⟨W, T, iw, r, (spost_of p).imp fun ds W1 H1 l ⟨T1, r1, p1⟩ p vs hp hr => snx (r1.newOwn hp (mo := .lst ds) ⟨vs, upd_same, hr⟩) p1⟩
theorem ev_frz (i : Nat) {x : Str} {p : Pos} (h : PE X (.Name x p) (tVar i)) : EV X E (.Name x p) (mFrz i) := h.imp fun σ H Q q => by
  obtain ⟨W, T, iw, r, p⟩ := q
  unfold mFrz at p
  split at p
  · rename_i d h
    obtain ⟨v, h1, h2⟩ := r.e.val i d h
    exact ⟨v, h1, p W H (Wd.le.refl W) r v (.of h2)⟩
  · rename_i xs h
    obtain ⟨a, h1, _, _, _, _, vs, h6, h7⟩ := r.e.own i _ h
    have lf : W.lf { W with F := upd W.F a (.lst vs) } := ⟨rfl, rfl, ⟨[], (List.append_nil _).symm⟩, fun c u e => by
      show upd W.F a (.lst vs) c = some u
      by_cases hc : c = a
      · rw [hc, upd_same, ← h6, ← hc]
        exact (r.s.F c u e)
      · rw [upd_ne hc]
        exact e⟩
    obtain ⟨le, r2⟩ := r.frz (d := .lst xs) h h1 h6 (by
      simp only [Rep]
      exact ⟨a, vs, rfl, upd_same, h7.mono' lf⟩)
    exact ⟨_, h1, p _ H le r2 _ (mkLst upd_same (h7.mono' lf))⟩
  · rename_i ks xs h
    obtain ⟨a, h1, _, _, _, _, vs, hl, h6, h7⟩ := r.e.own i _ h
    have lf : W.lf { W with F := upd W.F a (.dK (ks.zip vs)) } := ⟨rfl, rfl, ⟨[], (List.append_nil _).symm⟩, fun c u e => by
      show upd W.F a (.dK (ks.zip vs)) c = some u
      by_cases hc : c = a
      · rw [hc, upd_same, ← h6, ← hc]
        exact (r.s.F c u e)
      · rw [upd_ne hc]
        exact e⟩
    have rp : Rep { W with F := upd W.F a (.dK (ks.zip vs)) } (.dic ks xs) (.ref a) := by
      simp only [Rep]
      exact ⟨a, vs, rfl, hl, upd_same, h7.mono' lf⟩
    obtain ⟨le, r2⟩ := r.frz (d := .dic ks xs) h h1 h6 rp
    exact ⟨_, h1, p _ H le r2 _ (.of rp)⟩
  · exact p.elim

/-! ### a slot's own list changes -/
theorem own_ty {W : Wd} {T : MT} {σ : L2.St} {H : Hp} (r : Rel W T σ H) {i : Nat} {mo : MO} {a : Addr} (h : T.env[i]? = some (.own mo)) (e : σ[i]? = some (some (.ref a))) {xs : List FL.D} (hm : mo = .lst xs) : ∃ vs, H a = some (.lst vs) ∧ Reps W xs vs := by
  subst hm
  obtain ⟨b, h1, _, _, _, _, vs, h6, h7⟩ := r.e.own i _ h
  rw [e] at h1
  cases h1
  exact ⟨vs, h6, h7⟩
theorem sv_app (i : Nat) {ca : Expr} (hpe : PE X ca (tBM X.K "list" rAppend (tVar i) (tCons (tm X E ma) tNil))) (hs : swapsWith ca none pos.line X.env = pure false := by rfl) : SV X E (.Expr ca pos) (sApp i ma) :=
  (ps_expr hpe hs).imp fun D σ H h => by
    obtain ⟨W, T, iw, r, p⟩ := h
    unfold sApp at p
    split at p
    · rename_i xs0 hmo
      obtain ⟨a, h1, h2, h3, h4, h5, vs0, h6, _⟩ := r.e.own i _ hmo
      have ty : tyV X.K "list" (.ref a) H := .inl ⟨rfl, _, SqL.of h6⟩
      refine ⟨.ref a, h1, ty, ?_⟩
      refine (sm_bnd iw r p).imp fun v H1 q => ?_
      obtain ⟨d, W1, T1, l, i1, r1, hv, p1⟩ := q
      split at p1
      · rename_i xs hx
        obtain ⟨vs, e, rv⟩ := own_ty r1 hx h1 rfl
        cases ht : isTmp d || decide (sz ≤ xs.length) with
        | true => rw [ht] at p1; exact p1.elim
        | false =>
          rw [ht] at p1
          rw [Bool.or_eq_false_iff] at ht
          have hz := of_decide_eq_false ht.2
          refine ⟨a, vs, v, rfl, rfl, e, ?_, snx (r1.mutOwn hx h1 (mo' := .lst (xs ++ [d])) ⟨_, upd_same, rv.append (Reps.cons (hv.rep ht.1) Reps.nil)⟩) p1⟩
          rw [rv.length]
          exact Nat.lt_of_lt_of_le (Nat.lt_of_not_le hz) (sz_line (Nat.le_refl _))
      · exact p1.elim
    · exact p.elim
theorem sv_ext (i : Nat) {ca : Expr} (hpe : PE X ca (tBM X.K "list" rExtend (tVar i) (tCons (tm X E ma) tNil))) (hs : swapsWith ca none pos.line X.env = pure false := by rfl) : SV X E (.Expr ca pos) (sExt i ma) :=
  (ps_expr hpe hs).imp fun D σ H h => by
    obtain ⟨W, T, iw, r, p⟩ := h
    unfold sExt at p
    split at p
    · rename_i xs0 hmo
      obtain ⟨a, h1, h2, h3, h4, h5, vs0, h6, _⟩ := r.e.own i _ hmo
      have ty : tyV X.K "list" (.ref a) H := .inl ⟨rfl, _, SqL.of h6⟩
      refine ⟨.ref a, h1, ty, ?_⟩
      refine (sm_bnd iw r p).imp fun v H1 q => ?_
      obtain ⟨d, W1, T1, l, i1, r1, hv, p1⟩ := q
      split at p1
      · rename_i xs ys hx
        obtain ⟨vs, e, rv⟩ := own_ty r1 hx h1 rfl
        obtain ⟨b, ws, rfl, e2, rw2⟩ := r1.vLst hv rfl
        split at p1
        · rename_i hz
          refine ⟨a, b, vs, ws, rfl, rfl, e, e2, by rw [rv.length, rw2.length]; exact sz_line hz, snx (r1.mutOwn hx h1 (mo' := .lst (xs ++ ys)) ⟨_, upd_same, rv.append rw2⟩) p1⟩
        · exact p1.elim
      · exact p1.elim
    · exact p.elim
/-- o[k] = e -/
theorem sv_setIx {o k : Expr} {mo mk : M FL.D} {pt : Pos} (ha : EV X E a ma) (ho : EV X E o mo) (hk : EV X E k mk)
    (hsub : ∀ v, assign (.Subscript o k pt) X.env v = (do
      let ov ← holding [v] (eval o X.env)
      let iv ← holding [v, ov] (eval k X.env)
      standAt pt
      holding [v, ov, iv] (setItem ov iv v)
      release [v, ov, iv] []) := by intro _; rfl)
    (hs : swapsWithSole [.Subscript o k pt] a pos.line X.env = pure false := by rfl) (hw : swappedStores [.Subscript o k pt] a X.env = pure none := by rfl) (h1 : (assignEach [.Subscript o k pt] X.env).map (·.2) = [assign (.Subscript o k pt) X.env] := by rfl) :
    SV X E (.Assign [.Subscript o k pt] a pos) (sSetIx mo mk ma) := (ps_asg ha (pg_sub ho hk set_list hsub) hs hw h1).imp fun D σ H h => by
  obtain ⟨W, T, iw, r, p⟩ := h
  refine (sm_bnd iw r p).imp fun v H1 q => ?_
  obtain ⟨d, W1, T1, l1, i1, r1, hv, p1⟩ := q
  refine (sm_bnd i1 r1 p1).imp fun x H2 q => ?_
  obtain ⟨dx, W2, T2, l2, i2, r2, hx, p2⟩ := q
  refine (sm_bnd i2 r2 p2).imp fun y H3 q => ?_
  obtain ⟨dy, W3, T3, l3, i3, r3, hy, p3⟩ := q
  have hv3 := (hv.mono l2).mono l3
  have hx3 := hx.mono l3
  split at p3
  · rename_i n j
    split at p3
    · rename_i xs hst
      split at p3
      · rename_i q hq
        have hx3 : Rep W3 (.obj n) x := hx3
        simp only [Rep] at hx3
        obtain ⟨b, hb, rfl⟩ := hx3
        obtain ⟨_, _, vs, e, rv⟩ := r3.s.obj n b _ hb hst rfl
        cases ht : isTmp d with
        | true => rw [ht] at p3; exact p3.elim
        | false =>
          rw [ht] at p3
          rw [rInt hy]
          refine ⟨b, vs, j, q, rfl, rfl, e, by rw [rv.length, ← ixD_eq]; exact hq, snx (r3.mutObj hst rfl hb (mo' := .lst (xs.set q d)) ⟨_, upd_same, rv.set (hv3.rep ht) q⟩) p3⟩
      · exact p3.elim
    · exact p3.elim
  · rename_i i j
    split at p3
    · rename_i xs hst
      split at p3
      · rename_i q hq
        have hx3 : σ[i]? = some (some x) := hx3
        obtain ⟨b, hb, _, _, _, _, vs, e, rv⟩ := r3.e.own i _ hst
        rw [hx3] at hb
        cases hb
        cases ht : isTmp d with
        | true => rw [ht] at p3; exact p3.elim
        | false =>
          rw [ht] at p3
          rw [rInt hy]
          refine ⟨b, vs, j, q, rfl, rfl, e, by rw [rv.length, ← ixD_eq]; exact hq, snx (r3.mutOwn hst hx3 (mo' := .lst (xs.set q d)) ⟨_, upd_same, rv.set (hv3.rep ht) q⟩) p3⟩
      · exact p3.elim
    · exact p3.elim
  · exact p3.elim
end
end FL

set_option Elab.async false
set_option linter.all false
set_option maxRecDepth 100000
set_option maxHeartbeats 4000000
set_option exponentiation.threshold 20000
/-! FL10: loops and comprehensions by their mirrors. -/
namespace FL
open PySem PySem.Spec PyProof.Rows L2

/-- the i-th thing of xs comes: as it is, or a new pair -/
def YD (W : Wd) (xs : List D) : Nat → Hp → V → Hp → Prop := fun i H x H' => (H' = H ∧ ∃ d, xs[i]? = some d ∧ Rep W d x) ∨
  ∃ p a b da db, x = .ref p ∧ H p = none ∧ H' = upd H p (.tup [a, b]) ∧ xs[i]? = some (.tup [da, db]) ∧ Rep W da a ∧ Rep W db b
abbrev WkD (W : Wd) (J : It) (xs : List D) : Prop := Walk J xs.length (fun H => Same W.F H) (YD W xs)
/-- an iterable's reading by its things -/
def ti (X : Cx) (E : XK) (m : M (List D)) : TI := fun σ H R => ∃ W T, In X W ∧ Rel W T σ H ∧ post E W σ (m T) fun xs W' H' => ∀ J, WkD W' J xs → R J H'
abbrev IV (X : Cx) (E : XK) (tg e : Expr) (m : M (List D)) : Prop := PI X tg e (ti X E m)
theorem _root_.L2.PI.imp {X : Cx} {tg e : Expr} {t t' : TI} (h : PI X tg e t) (k : ∀ σ H Q, t' σ H Q → t σ H Q) : PI X tg e t' := ⟨fun pins s σ H R I q => h.run pins s σ H R I (k σ H R q)⟩
theorem _root_.L2.PI.or {X : Cx} {tg e : Expr} {t t' : TI} (h : PI X tg e t) (h' : PI X tg e t') : PI X tg e (fun σ H R => t σ H R ∨ t' σ H R) := ⟨fun pins s σ H R I q => q.elim (h.run pins s σ H R I) (h'.run pins s σ H R I)⟩
/-- a thing that has come -/
theorem Rel.came {W : Wd} {T : MT} {σ : L2.St} {H H' : Hp} {W0 : Wd} {xs : List D} {i : Nat} {x : V} (r : Rel W T σ H) (l : W0.lf W) (y : YD W0 xs i H x H') : ∃ W' d, W.le W' ∧ Rel W' T σ H' ∧ xs[i]? = some d ∧ Rep W' d x := by
  rcases y with ⟨rfl, d, h1, h2⟩ | ⟨p, a, b, da, db, rfl, hp, rfl, h1, h2, h3⟩
  · exact ⟨W, d, Wd.le.refl W, r, h1, Rep.monoF l d x h2⟩
  · have le := r.putLe (o := .tup [a, b]) hp
    refine ⟨_, _, le, r.put hp, h1, ?_⟩
    have := mkTup (W := W.put p (.tup [a, b])) (σ := σ) (xs := [da, db]) (.of put_F) (Reps.cons (Rep.mono le _ _ (Rep.monoF l _ _ h2)) (Reps.cons (Rep.mono le _ _ (Rep.monoF l _ _ h3)) Reps.nil))
    exact this

section
variable {X : Cx} {E : XK} {e a b c tg iter : Expr} {es : List Expr} {body : List Stmt} {ma mb : M FL.D} {mr src : M (List FL.D)} {mt : M Bool} {m1 : MS} {g : Tg} {ws vs : List Nat} {pos : Pos}

theorem walk_lst {K : PySem.W.Frag} {W : Wd} {p : Addr} {xs : List FL.D} {us : List V} (h : SqL K W.F p us) (r : Reps W xs us) : WkD W (Itl K p) xs := by
  have w := (walk_list (K := K) (a := p) (xs := us)).mono (G' := fun H => Same W.F H) (Y' := YD W xs) (fun H s => s.seq h) fun i H x H' hi hs y => by
    obtain ⟨e1, e2⟩ := y
    rw [r.length] at hi
    obtain ⟨v, h1, h2⟩ := r.get (List.getElem?_eq_getElem hi)
    rw [e2] at h1
    cases h1
    exact .inl ⟨e1, _, List.getElem?_eq_getElem hi, h2⟩
  rw [r.length] at w
  exact w
theorem walk_tp {K : PySem.W.Frag} {W : Wd} {p : Addr} {xs : List FL.D} {us : List V} (h : SqT K W.F p us) (r : Reps W xs us) : WkD W (Itt K p) xs := by
  have w := (walk_tup (K := K) (a := p) (xs := us)).mono (G' := fun H => Same W.F H) (Y' := YD W xs) (fun H s => sqT_same s h) fun i H x H' hi hs y => by
    obtain ⟨e1, e2⟩ := y
    rw [r.length] at hi
    obtain ⟨v, h1, h2⟩ := r.get (List.getElem?_eq_getElem hi)
    rw [e2] at h1
    cases h1
    exact .inl ⟨e1, _, List.getElem?_eq_getElem hi, h2⟩
  rw [r.length] at w
  exact w
theorem iv_seq (ha : EV X E a ma) : IV X E tg a (itSeq ma) := (PI.or (pi_list ha) (pi_tup ha)).imp fun σ H R h => by
  obtain ⟨W, T, i, r, p⟩ := h
  by_cases hl : ∃ d T', ma T = .ok d T' ∧ ∃ xs, d = .tup xs
  · obtain ⟨d, T', hm, xs, rfl⟩ := hl
    right
    refine ⟨W, T, i, r, ?_⟩
    have p2 : post E W σ (bnd ma (fun x => lift fun _ => seqOf x) T) fun xs W' H' => ∀ J, WkD W' J xs → R J H' := p
    unfold bnd at p2
    rw [hm] at p2 ⊢
    intro W' H' l r' v hv
    have p3 : ∀ J, WkD W' J xs → R J H' := p2 W' H' l r'
    have hv : Rep W' (.tup xs) v := hv
    simp only [Rep] at hv
    obtain ⟨q, us, rfl, s, t⟩ := hv
    rw [(i.le l).K] at s
    exact ⟨q, rfl, ⟨us, sqT_same r'.s.F s⟩, p3 _ (walk_tp s t)⟩
  · left
    refine ⟨W, T, i, r, ?_⟩
    have p2 : post E W σ (bnd ma (fun x => lift fun _ => seqOf x) T) fun xs W' H' => ∀ J, WkD W' J xs → R J H' := p
    unfold bnd at p2
    cases hm : ma T with
    | ok d T' =>
      rw [hm] at p2
      intro W' H' l r' v hv
      have p3 : post E W σ ((lift fun _ => seqOf d) T') fun xs W' H' => ∀ J, WkD W' J xs → R J H' := p2
      obtain ⟨xs, e, k⟩ := post_lift r' (p3.le l)
      cases d <;> simp only [seqOf] at e <;> try (cases e)
      · exact absurd ⟨_, _, hm, _, rfl⟩ hl
      · have hv : Rep W' (.lst xs) v := hv
        simp only [Rep] at hv
        obtain ⟨q, us, rfl, s, t⟩ := hv
        exact ⟨q, rfl, ⟨us, SqL.of (r'.s.F _ _ s)⟩, k W' H' (Wd.le.refl _) r' _ (walk_lst (SqL.of s) t)⟩
    | exc c fs T' =>
      rw [hm] at p2
      exact p2
    | stuck =>
      rw [hm] at p2
      exact p2
theorem rg_bounds {a b : Int} (h : rgOk a b = true) : (-(2 ^ 62) ≤ a ∧ a < 2 ^ 62) ∧ -(2 ^ 62) ≤ b ∧ b < 2 ^ 62 := by
  have h := of_decide_eq_true h
  omega
theorem walk_rg {W : Wd} {lo hi : Int} : WkD W (Itr lo (hi - lo).toNat) (rgD lo hi) := by
  have w := (walk_range (lo := lo) (n := (hi - lo).toNat)).mono (G' := fun H => Same W.F H) (Y' := YD W (rgD lo hi)) (fun H s => trivial) fun i H x H' hi' hs y => by
    obtain ⟨e1, e2⟩ := y
    refine .inl ⟨e1, .int (lo + (i : Nat)), ?_, by simp only [Rep]; exact e2⟩
    unfold rgD
    rw [List.getElem?_map, List.getElem?_range hi']
    rfl
  have hl : (rgD lo hi).length = (hi - lo).toNat := by
    unfold rgD
    rw [List.length_map, List.length_range]
  show Walk _ (rgD lo hi).length _ _
  rw [hl]
  exact w
theorem iv_range1 {p pos : Pos} (hg : Gl X "range") (hm : X.mg "range" = none) (ha : EV X E a ma) (hs : starEach [a] X.env = [(false, eval a X.env)] := by rfl) : IV X E tg (.Call (.Name "range" p) [a] [] pos) (itRange1 ma) := (pi_range1 hg hm (pa_cons ha pa_nil hs) hs).imp fun σ H R h => by
  obtain ⟨W, T, i, r, p⟩ := h
  refine (tm_bnd i r p).imp fun v H1 q => ?_
  obtain ⟨d, W1, T1, l, i1, r1, hv, p1⟩ := q
  obtain ⟨z, e, k⟩ := post_lift r1 p1
  cases d <;> simp only [rg1] at e <;> try (cases e)
  rename_i b
  by_cases hb : rgOk 0 b = true
  · rw [if_pos hb] at e
    cases e
    have w := walk_rg (W := W1) (lo := 0) (hi := b)
    rw [Int.sub_zero] at w
    refine ⟨b, ?_, (rg_bounds hb).2.1, (rg_bounds hb).2.2, k W1 H1 (Wd.le.refl _) r1 _ w⟩
    rw [rInt hv]
  · rw [if_neg hb] at e
    cases e
theorem iv_range2 {p pos : Pos} (hg : Gl X "range") (hm : X.mg "range" = none) (ha : EV X E a ma) (hb : EV X E b mb) (hs : starEach [a, b] X.env = [(false, eval a X.env), (false, eval b X.env)] := by rfl) (hs2 : starEach [b] X.env = [(false, eval b X.env)] := by rfl) :
    IV X E tg (.Call (.Name "range" p) [a, b] [] pos) (itRange2 ma mb) := (pi_range2 hg hm (pa_cons ha (pa_cons hb pa_nil hs2) (by rw [hs, hs2])) hs hs2).imp fun σ H R h => by
  obtain ⟨W, T, i, r, p⟩ := h
  refine (tm_bnd i r p).imp fun v H1 q => ?_
  obtain ⟨d, W1, T1, l, i1, r1, hv, p1⟩ := q
  refine (tm_bnd i1 r1 p1).imp fun w H2 q => ?_
  obtain ⟨d2, W2, T2, l2, i2, r2, hw, p2⟩ := q
  obtain ⟨z, e, k⟩ := post_lift r2 p2
  cases d <;> cases d2 <;> simp only [rg2] at e <;> try (cases e)
  rename_i a b
  by_cases hb : rgOk a b = true
  · rw [if_pos hb] at e
    cases e
    have w := walk_rg (W := W2) (lo := a) (hi := b)
    have h1 := rInt (hv.mono l2)
    refine ⟨a, b, ?_, ⟨(rg_bounds hb).1.1, (rg_bounds hb).1.2, (rg_bounds hb).2.1, (rg_bounds hb).2.2⟩, k W2 H2 (Wd.le.refl _) r2 _ w⟩
    rw [h1, rInt hw]
  · rw [if_neg hb] at e
    cases e
theorem iv_str (ha : EV X E a ma) : IV X E tg a (itStr ma) := (pi_str ha).imp fun σ H R h => by
  obtain ⟨W, T, i, r, p⟩ := h
  refine (tm_bnd i r p).imp fun v H1 q => ?_
  obtain ⟨d, W1, T1, l, i1, r1, hv, p1⟩ := q
  obtain ⟨z, e, k⟩ := post_lift r1 p1
  cases d <;> simp only [signsD] at e <;> cases e
  rename_i x
  refine ⟨x, rStr hv, k W1 H1 (Wd.le.refl _) r1 _ ?_⟩
  have w := (walk_str (z := x)).mono (G' := fun H => Same W1.F H) (Y' := YD W1 (x.cps.toList.map fun c => .str ⟨#[c]⟩)) (fun H s => trivial) fun i H y H' hi' hs hy => by
    obtain ⟨e1, c, e2, e3⟩ := hy
    refine .inl ⟨e1, .str ⟨#[c]⟩, ?_, by simp only [Rep]; exact e3⟩
    rw [List.getElem?_map, Array.getElem?_toList, e2]
    rfl
  show Walk _ (x.cps.toList.map _).length _ _
  rw [List.length_map, Array.length_toList]
  exact w
theorem get_zw {f : FL.D → FL.D → FL.D} : ∀ {xs ys : List FL.D} {i : Nat} {x y : FL.D}, xs[i]? = some x → ys[i]? = some y → (List.zipWith f xs ys)[i]? = some (f x y)
  | [], _, _, _, _, h, _ => by simp at h
  | _ :: _, [], _, _, _, _, h => by simp at h
  | a :: xs, b :: ys, 0, x, y, h1, h2 => by
    simp at h1 h2
    rw [h1, h2]
    rfl
  | a :: xs, b :: ys, i + 1, x, y, h1, h2 => by
    simp at h1 h2
    rw [List.zipWith_cons_cons, List.getElem?_cons_succ]
    exact get_zw h1 h2
theorem iv_zip {p pos tpos : Pos} {elts : List Expr} {kk : Nat} (hg : Gl X "zip") (hm : X.mg "zip" = none) (ha : EV X E a ma) (hb : EV X E b mb) (hs : starEach [a, b] X.env = (false, eval a X.env) :: starEach [b] X.env := by rfl) (hs2 : starEach [b] X.env = (false, eval b X.env) :: starEach [] X.env := by rfl)
    (hpl : (backTo pos (starEach [b] X.env)).any (·.1) = false := by rfl) : IV X E (.Tuple elts kk tpos) (.Call (.Name "zip" p) [a, b] [] pos) (itZip ma mb) := (RZ.pi_zipA hg hm (pa_cons ha (pa_cons hb pa_nil hs2) hs) hs hpl).imp fun σ H R h => by
  obtain ⟨W, T, i, r, p⟩ := h
  refine (tm_bnd i r p).imp fun v H1 q => ?_
  obtain ⟨d, W1, T1, l, i1, r1, hv, p1⟩ := q
  refine (tm_bnd i1 r1 p1).imp fun w H2 q => ?_
  obtain ⟨d2, W2, T2, l2, i2, r2, hw, p2⟩ := q
  obtain ⟨z, e, k⟩ := post_lift r2 p2
  have hv2 := hv.mono l2
  cases d <;> cases d2 <;> simp only [zipD] at e <;> cases e
  · rename_i xs ys
    have hv2 : Rep W2 (.tup xs) v := hv2
    have hw : Rep W2 (.tup ys) w := hw
    simp only [Rep] at hv2 hw
    obtain ⟨p1, us, rfl, s1, t1⟩ := hv2
    obtain ⟨p2, vs, rfl, s2, t2⟩ := hw
    refine ⟨p1, p2, us, vs, rfl, .inr ⟨by rw [← i2.K]; exact sqT_same r2.s.F s1, by rw [← i2.K]; exact sqT_same r2.s.F s2, k W2 H2 (Wd.le.refl _) r2 _ ?_⟩⟩
    rw [i2.K] at s1 s2
    have g : ∀ i H, i < min us.length vs.length → Same W2.F H → ∃ x y, us[i]? = some x ∧ vs[i]? = some y := fun i H hi _ => ⟨us[i], vs[i], List.getElem?_eq_getElem (by omega), List.getElem?_eq_getElem (by omega)⟩
    have hl : (List.zipWith (fun x y => FL.D.tup [x, y]) xs ys).length = min us.length vs.length := by rw [List.length_zipWith, t1.length, t2.length]
    refine ⟨fun i H hi hF => ?_, fun H hF => ?_, fun i H x H' hi hF y => ?_⟩
    · rw [hl] at hi
      obtain ⟨x, y, h1, h2⟩ := g i H hi hF
      exact ⟨us, vs, x, y, sqT_same hF s1, sqT_same hF s2, h1, h2⟩
    · refine ⟨us, vs, sqT_same hF s1, sqT_same hF s2, ?_⟩
      rw [hl]
      omega
    · obtain ⟨q, a, b, rfl, hq, rfl, f1, f2⟩ := y
      have e1 := f1 us (sqT_same hF s1)
      have e2 := f2 vs (sqT_same hF s2)
      rw [hl] at hi
      have g1 : i < xs.length := by rw [← t1.length]; omega
      have g2 : i < ys.length := by rw [← t2.length]; omega
      obtain ⟨a', h1, h2⟩ := t1.get (List.getElem?_eq_getElem g1)
      obtain ⟨b', h3, h4⟩ := t2.get (List.getElem?_eq_getElem g2)
      rw [e1] at h1
      rw [e2] at h3
      cases h1
      cases h3
      exact .inr ⟨q, a, b, _, _, rfl, hq, rfl, get_zw (List.getElem?_eq_getElem g1) (List.getElem?_eq_getElem g2), h2, h4⟩
  · rename_i xs ys
    have hv2 : Rep W2 (.lst xs) v := hv2
    have hw : Rep W2 (.lst ys) w := hw
    simp only [Rep] at hv2 hw
    obtain ⟨p1, us, rfl, s1, t1⟩ := hv2
    obtain ⟨p2, vs, rfl, s2, t2⟩ := hw
    have sq : ∀ {H : Hp}, Same W2.F H → SqL X.K H p1 us ∧ SqL X.K H p2 vs := fun hF => ⟨SqL.of (hF _ _ s1), SqL.of (hF _ _ s2)⟩
    refine ⟨p1, p2, us, vs, rfl, .inl ⟨(sq r2.s.F).1, (sq r2.s.F).2, k W2 H2 (Wd.le.refl _) r2 _ ?_⟩⟩
    have hl : (List.zipWith (fun x y => FL.D.tup [x, y]) xs ys).length = min us.length vs.length := by rw [List.length_zipWith, t1.length, t2.length]
    refine ⟨fun i H hi hF => ?_, fun H hF => ?_, fun i H x H' hi hF y => ?_⟩
    · rw [hl] at hi
      exact ⟨us, vs, us[i], vs[i], (sq hF).1, (sq hF).2, List.getElem?_eq_getElem (by omega), List.getElem?_eq_getElem (by omega)⟩
    · refine ⟨us, vs, (sq hF).1, (sq hF).2, ?_⟩
      rw [hl]
      omega
    · obtain ⟨q, a, b, rfl, hq, rfl, f1, f2⟩ := y
      have e1 := f1 us (sq hF).1
      have e2 := f2 vs (sq hF).2
      rw [hl] at hi
      have g1 : i < xs.length := by rw [← t1.length]; omega
      have g2 : i < ys.length := by rw [← t2.length]; omega
      obtain ⟨a', h1, h2⟩ := t1.get (List.getElem?_eq_getElem g1)
      obtain ⟨b', h3, h4⟩ := t2.get (List.getElem?_eq_getElem g2)
      rw [e1] at h1
      rw [e2] at h3
      cases h1
      cases h3
      exact .inr ⟨q, a, b, _, _, rfl, hq, rfl, get_zw (List.getElem?_eq_getElem g1) (List.getElem?_eq_getElem g2), h2, h4⟩
theorem enumD_len : ∀ (xs : List FL.D) (k : Nat), (enumD k xs).length = xs.length
  | [], _ => rfl
  | x :: xs, k => by rw [enumD, List.length_cons, List.length_cons, enumD_len xs]
theorem enumD_get : ∀ (xs : List FL.D) (k i : Nat) (x : FL.D), xs[i]? = some x → (enumD k xs)[i]? = some (.tup [.int ((k + i : Nat) : Int), x])
  | [], _, _, _, h => by simp at h
  | x :: xs, k, 0, y, h => by
    simp at h
    rw [h]
    rfl
  | x :: xs, k, i + 1, y, h => by
    rw [enumD, List.getElem?_cons_succ, enumD_get xs (k + 1) i y (by simpa using h)]
    have : k + 1 + i = k + (i + 1) := by omega
    rw [this]
theorem iv_enum {p pos tpos : Pos} {elts : List Expr} {kk : Nat} (hg : Gl X "enumerate") (hm : X.mg "enumerate" = none) (ha : EV X E a ma) (hs : starEach [a] X.env = [(false, eval a X.env)] := by rfl) : IV X E (.Tuple elts kk tpos) (.Call (.Name "enumerate" p) [a] [] pos) (itEnum ma) := (pi_enum hg hm (pa_cons ha pa_nil hs) hs).imp fun σ H R h => by
  obtain ⟨W, T, i, r, p⟩ := h
  refine (tm_bnd i r p).imp fun v H1 q => ?_
  obtain ⟨d, W1, T1, l, i1, r1, hv, p1⟩ := q
  obtain ⟨z, e, k⟩ := post_lift r1 p1
  cases d <;> simp only [enumOf] at e <;> cases e
  rename_i xs
  have hv : Rep W1 (.lst xs) v := hv
  simp only [Rep] at hv
  obtain ⟨p1, us, rfl, s1, t1⟩ := hv
  have sq : ∀ {H : Hp}, Same W1.F H → SqL X.K H p1 us := fun hF => SqL.of (hF _ _ s1)
  refine ⟨p1, us, rfl, sq r1.s.F, k W1 H1 (Wd.le.refl _) r1 _ ⟨fun i H hi hF => ?_, fun H hF => ?_, fun i H x H' hi hF y => ?_⟩⟩
  · rw [enumD_len, ← t1.length] at hi
    exact ⟨us, us[i], sq hF, List.getElem?_eq_getElem hi⟩
  · exact ⟨us, sq hF, by rw [enumD_len, t1.length]; exact Nat.le_refl _⟩
  · obtain ⟨q, b, rfl, hq, rfl, f1⟩ := y
    rw [enumD_len] at hi
    obtain ⟨b', h3, h4⟩ := t1.get (List.getElem?_eq_getElem hi)
    rw [f1 us (sq hF)] at h3
    cases h3
    refine .inr ⟨q, _, b, .int (i : Nat), _, rfl, hq, rfl, ?_, by simp only [Rep], h4⟩
    rw [enumD_get xs 0 i _ (List.getElem?_eq_getElem hi), Nat.zero_add]

/-! ### for, while -/
theorem sv_for (hp : PassesOwn (model X.prog X.w) X.A X.env X.xe) (hc : X.calm = true) (hi : IV X E tg iter src) (hg : GV X E ws tg g) (hb : BV' X E body m1) (hs : ∀ x, foldedSetIterable iter X.env x = pure x := by intro _; rfl) : SV X E (.For tg iter body [] pos) (sFor src g m1) :=
  (ps_for hp hc hi hg hb hs).imp fun D σ H h => by
    obtain ⟨W, T, i, r, p⟩ := h
    refine ⟨W, T, i, r, (spost_of p).imp fun xs W1 H1 l ⟨T1, r1, p1⟩ J wk => ?_⟩
    refine for_it wk (fun n σ' H' => ∃ W' T', W1.le W' ∧ Rel W' T' σ' H' ∧ spost E D W' (forL g m1 (xs.drop n) T')) ⟨W1, T1, Wd.le.refl _, r1, p1⟩ (fun n σ' H' _ ⟨W', T', l', r', _⟩ => l'.F.trans r'.s.F) ?_ ?_
    · rintro n x σ' H' H2 hn ⟨W', T', l', r', p'⟩ y
      obtain ⟨W2, d, l2, r2, hd, hr⟩ := r'.came l'.tolf y
      have ed : xs.drop n = d :: xs.drop (n + 1) := by
        obtain ⟨q, e⟩ := List.getElem?_eq_some_iff.mp hd
        rw [← e]
        exact List.drop_eq_getElem_cons q
      rw [ed] at p'
      unfold forL at p'
      have p2 := p'.le l2
      cases hgd : g d T' with
      | none => rw [hgd] at p2; exact p2.elim
      | some T3 =>
        simp only [hgd] at p2
        refine ⟨d, W2, T', (i.le l).le (l'.trans l2), r2, .of hr, T3, hgd, fun W3 σ3 H3 l3 r3 _ => ⟨W3, T3, (i.le l).le ((l'.trans l2).trans l3), r3, ?_⟩⟩
        have p3 := p2.le l3
        have ll := (l'.trans l2).trans l3
        cases hm : m1 T3 with
        | nx T4 => rw [hm] at p3; exact fun W4 σ4 H4 l4 r4 => ⟨W4, T4, ll.trans l4, r4, p3.le l4⟩
        | ct T4 => rw [hm] at p3; exact fun W4 σ4 H4 l4 r4 => ⟨W4, T4, ll.trans l4, r4, p3.le l4⟩
        | bk T4 => rw [hm] at p3; exact p3
        | rt d4 T4 => rw [hm] at p3; exact p3
        | exc c4 fs4 T4 => rw [hm] at p3; exact p3
        | stuck => rw [hm] at p3; exact p3
    · rintro σ' H' ⟨W', T', l', r', p'⟩
      rw [List.drop_length] at p'
      exact snx r' p'
theorem sv_while (hp : PassesOwn (model X.prog X.w) X.A X.env X.xe) (hc : BV X E c mt) (hb : BV' X E body m1) : SV X E (.While c body [] pos) (sWhile mt m1) :=
  (ps_while hp hc hb).imp fun D σ H h => by
    obtain ⟨W, T, i, r, p⟩ := h
    have hne : sWhile mt m1 T ≠ .stuck := fun z => by rw [z] at p; exact p
    obtain ⟨n, hn⟩ := sWhile_ex hne
    rw [sWhile_of hn] at p
    refine ⟨fun m σ' H' => ∃ W' T', In X W' ∧ Rel W' T' σ' H' ∧ spost E D W' (whileN mt m1 m T'), ⟨n, W, T, i, r, p⟩, ?_⟩
    rintro m σ' H' ⟨W', T', i', r', p'⟩
    cases m with
    | zero => exact p'.elim
    | succ m =>
      unfold whileN at p'
      refine (st_bnd i' r' p').imp fun b H1 q => ?_
      obtain ⟨W1, T1, l1, i1, r1, p1⟩ := q
      cases b with
      | false => exact snx r1 p1
      | true =>
        rw [if_pos rfl] at p1 ⊢
        refine ⟨fun σ2 H2 => ∃ W2 T2, In X W2 ∧ Rel W2 T2 σ2 H2 ∧ spost E D W2 (whileN mt m1 m T2), fun σ2 H2 ⟨W2, T2, i2, r2, p2⟩ => ⟨m, Nat.lt_succ_self _, W2, T2, i2, r2, p2⟩, W1, T1, i1, r1, ?_⟩
        cases hm : m1 T1 with
        | nx T4 => rw [hm] at p1; exact fun W4 σ4 H4 l4 r4 => ⟨W4, T4, i1.le l4, r4, p1.le l4⟩
        | ct T4 => rw [hm] at p1; exact fun W4 σ4 H4 l4 r4 => ⟨W4, T4, i1.le l4, r4, p1.le l4⟩
        | bk T4 => rw [hm] at p1; exact p1
        | rt d4 T4 => rw [hm] at p1; exact p1
        | exc c4 fs4 T4 => rw [hm] at p1; exact p1
        | stuck => rw [hm] at p1; exact p1
end
end FL

set_option Elab.async false
set_option linter.all false
set_option maxRecDepth 100000
set_option maxHeartbeats 4000000
set_option exponentiation.threshold 20000
/-! FL11: comprehensions by their mirrors; a def's body. -/
namespace FL
open PySem PySem.Spec PyProof.Rows L2

theorem wipe_get (σ : L2.St) : ∀ (vs : List Nat) (i : Nat), (wipe σ vs)[i]? = if i ∈ vs ∧ i < σ.length then some none else σ[i]?
  | [], i => by simp [wipe]
  | v :: vs, i => by
    unfold wipe
    have ih := wipe_get σ vs i
    have hl := wipe_length σ vs
    by_cases h : v = i
    · subst h
      by_cases hv : v < σ.length
      · rw [List.getElem?_set_self (by rw [hl]; exact hv), if_pos ⟨List.mem_cons_self .., hv⟩]
      · rw [List.getElem?_eq_none (by rw [List.length_set, hl]; omega), if_neg fun z => hv z.2, List.getElem?_eq_none (by omega)]
    · rw [List.getElem?_set_ne h, ih]
      have e : (i ∈ v :: vs ∧ i < σ.length) ↔ (i ∈ vs ∧ i < σ.length) := by
        rw [List.mem_cons]
        constructor
        · rintro ⟨a | a, b⟩
          · exact absurd a.symm h
          · exact ⟨a, b⟩
        · rintro ⟨a, b⟩
          exact ⟨.inr a, b⟩
      by_cases q : i ∈ vs ∧ i < σ.length
      · rw [if_pos q, if_pos (e.mpr q)]
      · rw [if_neg q, if_neg fun z => q (e.mp z)]
theorem wipeL_len (env : List Sl) : ∀ vs : List Nat, (wipeL env vs).length = env.length
  | [] => rfl
  | v :: vs => by unfold wipeL; rw [List.length_set, wipeL_len env vs]
theorem wipeL_get (env : List Sl) : ∀ (vs : List Nat) (i : Nat), (wipeL env vs)[i]? = if i ∈ vs ∧ i < env.length then some .emp else env[i]?
  | [], i => by simp [wipeL]
  | v :: vs, i => by
    unfold wipeL
    have ih := wipeL_get env vs i
    have hl := wipeL_len env vs
    by_cases h : v = i
    · subst h
      by_cases hv : v < env.length
      · rw [List.getElem?_set_self (by rw [hl]; exact hv), if_pos ⟨List.mem_cons_self .., hv⟩]
      · rw [List.getElem?_eq_none (by rw [List.length_set, hl]; omega), if_neg fun z => hv z.2, List.getElem?_eq_none (by omega)]
    · rw [List.getElem?_set_ne h, ih]
      have e : (i ∈ v :: vs ∧ i < env.length) ↔ (i ∈ vs ∧ i < env.length) := by
        rw [List.mem_cons]
        constructor
        · rintro ⟨a | a, b⟩
          · exact absurd a.symm h
          · exact ⟨a, b⟩
        · rintro ⟨a, b⟩
          exact ⟨.inr a, b⟩
      by_cases q : i ∈ vs ∧ i < env.length
      · rw [if_pos q, if_pos (e.mpr q)]
      · rw [if_neg q, if_neg fun z => q (e.mp z)]
theorem restL_len (e0 env : List Sl) : ∀ vs : List Nat, (restL e0 env vs).length = env.length
  | [] => rfl
  | v :: vs => by unfold restL; rw [List.length_set, restL_len e0 env vs]
theorem restL_get (e0 env : List Sl) : ∀ (vs : List Nat) (i : Nat), (restL e0 env vs)[i]? = if i ∈ vs ∧ i < env.length then some (keepV e0[i]?) else env[i]?
  | [], i => by simp [restL]
  | v :: vs, i => by
    unfold restL
    have ih := restL_get e0 env vs i
    have hl := restL_len e0 env vs
    by_cases h : v = i
    · subst h
      by_cases hv : v < env.length
      · rw [List.getElem?_set_self (by rw [hl]; exact hv), if_pos ⟨List.mem_cons_self .., hv⟩]
      · rw [List.getElem?_eq_none (by rw [List.length_set, hl]; omega), if_neg fun z => hv z.2, List.getElem?_eq_none (by omega)]
    · rw [List.getElem?_set_ne h, ih]
      have e : (i ∈ v :: vs ∧ i < env.length) ↔ (i ∈ vs ∧ i < env.length) := by
        rw [List.mem_cons]
        constructor
        · rintro ⟨a | a, b⟩
          · exact absurd a.symm h
          · exact ⟨a, b⟩
        · rintro ⟨a, b⟩
          exact ⟨.inr a, b⟩
      by_cases q : i ∈ vs ∧ i < env.length
      · rw [if_pos q, if_pos (e.mpr q)]
      · rw [if_neg q, if_neg fun z => q (e.mp z)]
theorem wipe_off {σ σ2 : L2.St} {ws vs : List Nat} (h : SameOff ws σ σ2) (hs : ∀ i ∈ ws, i ∈ vs) : wipe σ2 vs = wipe σ vs := by
  apply List.ext_getElem?
  intro i
  rw [wipe_get, wipe_get, h.1]
  by_cases q : i ∈ vs ∧ i < σ.length
  · rw [if_pos q, if_pos q]
  · rw [if_neg q, if_neg q]
    by_cases hi : i ∈ vs
    · have hl : σ.length ≤ i := by
        have : ¬ i < σ.length := fun z => q ⟨hi, z⟩
        omega
      rw [List.getElem?_eq_none hl, List.getElem?_eq_none (by rw [h.1]; exact hl)]
    · exact h.2 i fun z => hi (hs i z)
theorem wipe_wipe (σ : L2.St) (vs : List Nat) : wipe (wipe σ vs) vs = wipe σ vs := by
  apply List.ext_getElem?
  intro i
  rw [wipe_get, wipe_length, wipe_get]
  by_cases q : i ∈ vs ∧ i < σ.length
  · rw [if_pos q]
    by_cases h : i ∈ vs ∧ i < σ.length
    · rw [if_pos h]
    · exact absurd q h
  · rw [if_neg q]

section
variable {W : Wd} {T : MT} {σ : L2.St} {H : Hp}
theorem Rel.wipe (r : Rel W T σ H) (vs : List Nat) : Rel W (wipeT vs T) (L2.wipe σ vs) H := by
  have en : ∀ {i : Nat} {s : Sl}, (wipeL T.env vs)[i]? = some s → s ≠ .emp → T.env[i]? = some s ∧ (L2.wipe σ vs)[i]? = σ[i]? := fun {i s} h ne => by
    rw [wipeL_get] at h
    by_cases q : i ∈ vs ∧ i < T.env.length
    · rw [if_pos q] at h
      cases h
      exact absurd rfl ne
    · rw [if_neg q] at h
      refine ⟨h, ?_⟩
      rw [wipe_get, if_neg]
      rw [← r.e.len]
      exact q
  refine ⟨r.s, ⟨?_, fun i d h => ?_, fun i mo h => ?_, fun i j mi mj a h1 h2 h3 h4 => ?_⟩⟩
  · show (wipeL T.env vs).length = _
    rw [wipeL_len, wipe_length, r.e.len]
  · obtain ⟨h1, h2⟩ := en h (fun z => nomatch z)
    rw [h2]
    exact r.e.val i d h1
  · obtain ⟨h1, h2⟩ := en h (fun z => nomatch z)
    rw [h2]
    exact r.e.own i mo h1
  · obtain ⟨k1, e1⟩ := en h1 (fun z => nomatch z)
    obtain ⟨k2, e2⟩ := en h2 (fun z => nomatch z)
    rw [e1] at h3
    rw [e2] at h4
    exact r.e.dist i j mi mj a k1 k2 h3 h4
/-- behind a comprehension -/
theorem Rel.rest {W' : Wd} {T' : MT} {H' : Hp} {vs : List Nat} (r : Rel W T σ H) (l : W.le W') (r' : Rel W' (wipeT vs T') (L2.wipe σ vs) H') : Rel W' { T' with env := restL T.env T'.env vs } σ H' := by
  have hlen : T'.env.length = σ.length := by
    have := r'.e.len
    rw [show (wipeT vs T').env = wipeL T'.env vs from rfl, wipeL_len, wipe_length] at this
    exact this
  have out : ∀ {i : Nat} {s : Sl}, (restL T.env T'.env vs)[i]? = some s → (i ∈ vs ∧ s = keepV T.env[i]?) ∨ ((wipeL T'.env vs)[i]? = some s ∧ (L2.wipe σ vs)[i]? = σ[i]?) := fun {i s} h => by
    rw [restL_get] at h
    by_cases q : i ∈ vs ∧ i < T'.env.length
    · rw [if_pos q] at h
      cases h
      exact .inl ⟨q.1, rfl⟩
    · rw [if_neg q] at h
      refine .inr ⟨?_, ?_⟩
      · rw [wipeL_get, if_neg q]
        exact h
      · rw [wipe_get, if_neg]
        rw [← hlen]
        exact q
  refine ⟨r'.s, ⟨?_, fun i d h => ?_, fun i mo h => ?_, fun i j mi mj a h1 h2 h3 h4 => ?_⟩⟩
  · show (restL T.env T'.env vs).length = _
    rw [restL_len, hlen]
  · rcases out h with ⟨_, e⟩ | ⟨e, e2⟩
    · unfold keepV at e
      split at e
      · rename_i d' hd
        cases e
        obtain ⟨v, h1, h2⟩ := r.e.val i d hd
        exact ⟨v, h1, h2.mono l⟩
      · cases e
    · obtain ⟨v, h1, h2⟩ := r'.e.val i d e
      rw [e2] at h1
      exact ⟨v, h1, h2⟩
  · rcases out h with ⟨_, e⟩ | ⟨e, e2⟩
    · unfold keepV at e
      split at e <;> cases e
    · obtain ⟨a, h1, h2⟩ := r'.e.own i mo e
      rw [e2] at h1
      exact ⟨a, h1, h2⟩
  · have ow : ∀ {i : Nat} {mo : MO}, (restL T.env T'.env vs)[i]? = some (.own mo) → (wipeL T'.env vs)[i]? = some (.own mo) ∧ (L2.wipe σ vs)[i]? = σ[i]? := fun {i mo} h => by
      rcases out h with ⟨_, e⟩ | e
      · unfold keepV at e
        split at e <;> cases e
      · exact e
    obtain ⟨k1, e1⟩ := ow h1
    obtain ⟨k2, e2⟩ := ow h2
    rw [← e1] at h3
    rw [← e2] at h4
    exact r'.e.dist i j mi mj a k1 k2 h3 h4
/-- a list that is being made is looked after -/
theorem Rel.more (r : Rel W T σ H) {p : Addr} {o : HO} (hp : H p = some o) (hF : W.F p = none) (hs : p ∉ W.as) (ho : ¬ OwnAt T σ p) : Rel { W with G := upd W.G p o } T σ H := by
  refine ⟨r.s.more (fun a u h => ?_) fun a h => ?_, ⟨r.e.len, fun i d h => ?_, fun i mo h => ?_, r.e.dist⟩⟩
  · by_cases ha : a = p
    · rw [ha, upd_same] at h
      rw [ha]
      exact hp.trans h
    · rw [upd_ne ha] at h
      exact r.s.G a u h
  · by_cases ha : a = p
    · rw [ha]
      exact ⟨hF, hs⟩
    · rw [upd_ne ha] at h
      exact ⟨r.s.FG a h, fun z => h (r.s.asG a z)⟩
  · obtain ⟨v, h1, h2⟩ := r.e.val i d h
    exact ⟨v, h1, Rep.monoF gd_lf d v h2⟩
  · obtain ⟨a, h1, h2, h3, h4, h5, h6⟩ := r.e.own i mo h
    have ha : a ≠ p := fun z => ho ⟨i, mo, h, by rw [← z]; exact h1⟩
    exact ⟨a, h1, h2, (upd_ne ha).trans h3, h4, h5, h6.monoF gd_lf rfl⟩
/-- looked after no more -/
theorem Rel.less {G : Hp} (r : Rel W T σ H) (h : Same G W.G) : Rel { W with G := G } T σ H := by
  refine ⟨r.s.less h, ⟨r.e.len, fun i d q => ?_, fun i mo q => ?_, r.e.dist⟩⟩
  · obtain ⟨v, h1, h2⟩ := r.e.val i d q
    exact ⟨v, h1, Rep.monoF gd_lf d v h2⟩
  · obtain ⟨a, h1, h2, h3, h4, h5, h6⟩ := r.e.own i mo q
    refine ⟨a, h1, h2, ?_, h4, h5, h6.monoF gd_lf rfl⟩
    show G a = none
    cases e : G a with
    | none => rfl
    | some o =>
      rw [h a o e] at h3
      cases h3
/-- without an object that nobody knows -/
def hdel (H : Hp) (p : Addr) : Hp := fun b => if b = p then none else H b
theorem hdel_ne {H : Hp} {p b : Addr} (h : b ≠ p) : hdel H p b = H b := if_neg h
theorem hdel_same {H : Hp} {p : Addr} : hdel H p p = none := if_pos rfl
theorem upd_hdel {H : Hp} {p : Addr} {o : HO} (h : H p = some o) : upd (hdel H p) p o = H := by
  funext b
  by_cases hb : b = p
  · rw [hb, upd_same, h]
  · rw [upd_ne hb, hdel_ne hb]
theorem Rel.del (r : Rel W T σ H) {p : Addr} (hF : W.F p = none) (hG : W.G p = none) (hs : p ∉ W.as) (ho : ¬ OwnAt T σ p) : Rel W T σ (hdel H p) := by
  refine ⟨⟨fun a u q => ?_, fun a u q => ?_, r.s.len, r.s.nd, fun a ha => ?_, r.s.FG, r.s.asG, fun n a mo e1 e2 e3 => ?_⟩, ⟨r.e.len, r.e.val, fun i mo q => ?_, r.e.dist⟩⟩
  · rw [hdel_ne fun z => by rw [z, hF] at q; cases q]
    exact r.s.F a u q
  · rw [hdel_ne fun z => by rw [z, hG] at q; cases q]
    exact r.s.G a u q
  · rw [hdel_ne fun z => hs (by rw [← z]; exact ha)]
    exact r.s.th a ha
  · obtain ⟨g1, g2, g3⟩ := r.s.obj n a mo e1 e2 e3
    have ha : a ≠ p := fun z => hs (by rw [← z]; exact List.mem_of_getElem? e1)
    exact ⟨g1, g2, g3.mono (Wd.le.refl W) (hdel_ne ha)⟩
  · obtain ⟨a, h1, h2, h3, h4, h5, h6⟩ := r.e.own i mo q
    have ha : a ≠ p := fun z => ho ⟨i, mo, q, by rw [← z]; exact h1⟩
    exact ⟨a, h1, h2, h3, h4, by rw [hdel_ne ha]; exact h5, h6.mono (Wd.le.refl W) (hdel_ne ha)⟩
theorem Rel.notOwn (r : Rel W T σ H) {p : Addr} (h : W.G p ≠ none) : ¬ OwnAt T σ p := fun q => h (r.ownAt q).2.1
/-- the list that is being made has grown -/
theorem Rel.grown (r : Rel W T σ H) {p : Addr} {o : HO} (h : W.G p ≠ none) : Rel { W with G := upd W.G p o } T σ (upd H p o) := by
  have hF := r.s.FG p h
  have hs : p ∉ W.as := fun z => h (r.s.asG p z)
  have ho := r.notOwn h
  have ne : ∀ {a : Addr}, W.F a ≠ none → a ≠ p := fun h z => h (by rw [z]; exact hF)
  have G' : ∀ {a : Addr}, a ≠ p → upd W.G p o a = W.G a := fun z => upd_ne z
  refine ⟨⟨fun a u q => ?_, fun a u q => ?_, r.s.len, r.s.nd, fun a ha => ?_, fun a q => ?_, fun a ha => ?_, fun n a mo e1 e2 e3 => ?_⟩, ⟨r.e.len, fun i d q => ?_, fun i mo q => ?_, r.e.dist⟩⟩
  · rw [upd_ne (ne (by rw [show W.F a = some u from q]; exact Option.some_ne_none _))]
    exact r.s.F a u q
  · have q : upd W.G p o a = some u := q
    by_cases ha : a = p
    · rw [ha, upd_same] at q
      rw [ha, upd_same]
      exact q
    · rw [upd_ne ha] at q
      rw [upd_ne ha]
      exact r.s.G a u q
  · rw [upd_ne fun z => hs (by rw [← z]; exact ha)]
    exact r.s.th a ha
  · have q : upd W.G p o a ≠ none := q
    by_cases ha : a = p
    · rw [ha]
      exact hF
    · rw [upd_ne ha] at q
      exact r.s.FG a q
  · show upd W.G p o a = none
    rw [G' fun z => hs (by rw [← z]; exact ha)]
    exact r.s.asG a ha
  · obtain ⟨g1, g2, g3⟩ := r.s.obj n a mo e1 e2 e3
    have ha : a ≠ p := fun z => hs (by rw [← z]; exact List.mem_of_getElem? e1)
    exact ⟨g1, by show upd W.G p o a = none; rw [G' ha]; exact g2, g3.monoF gd_lf (upd_ne ha)⟩
  · obtain ⟨v, h1, h2⟩ := r.e.val i d q
    exact ⟨v, h1, Rep.monoF gd_lf d v h2⟩
  · obtain ⟨a, h1, h2, h3, h4, h5, h6⟩ := r.e.own i mo q
    have ha : a ≠ p := fun z => ho ⟨i, mo, q, by rw [← z]; exact h1⟩
    exact ⟨a, h1, h2, by show upd W.G p o a = none; rw [G' ha]; exact h3, h4, by rw [upd_ne ha]; exact h5, h6.monoF gd_lf (upd_ne ha)⟩
end

section
variable {X : Cx} {E : XK} {elt tg iter : Expr} {ifs : List Expr} {scope : Scope} {own : List (Str × Nat)} {me : M D} {src : M (List D)} {mt : M Bool} {g : Tg} {ws : List Nat} {pos : Pos}
/-- a comprehension's tests -/
abbrev TV (X : Cx) (E : XK) (ifs : List Expr) (m : M Bool) : Prop := PTs X ifs (tt X E m)
theorem _root_.L2.PTs.imp {t t' : TT} (h : PTs X ifs t) (k : ∀ σ H Q, t' σ H Q → t σ H Q) : PTs X ifs t' := ⟨fun pins s σ H Q I q => h.run pins s σ H Q I (k σ H Q q)⟩
theorem tv_nil : TV X E [] (ret true) := pts_nil.imp fun σ H Q h => by
  obtain ⟨W, T, i, r, p⟩ := h
  exact post_true r p
theorem tv_one {c : Expr} (h : BV X E c mt) : TV X E [c] mt := pts_one h
theorem E0_post {α : Type} {W : Wd} {σ : L2.St} {o : Out α} {R : α → Wd → Hp → Prop} (h : ∀ a T, o = .ok a T → ∀ W' H', W.le W' → Rel W' T σ H' → R a W' H') (ne : ∃ a T, o = .ok a T) : post E0 W σ o R := by
  obtain ⟨a, T, rfl⟩ := ne
  exact h a T rfl
theorem In.blk {s : Shared} {H : Hp} {cenv : Env} {fp : List Addr} {W : Wd} (i : In X W) : In (X.blk s H scope cenv fp) W := ⟨i.K, i.mg⟩
/-- the whole of a comprehension's reading -/
theorem comp_run {σ : L2.St} {H : Hp} {Q : VK} (hw : ∀ i ∈ ws, i ∈ own.map (·.2)) (h : tf X E (fComp (own.map (·.2)) src g mt me) σ H Q) (X' : Cx) (hX : ∀ W, In X W → In X' W) (hXi : ∀ W, In X' W → In X W) :
    tLc (ti X E src) (gt X' E0 ws g) (tt X' E0 mt) (tm X' E0 me) (own.map (·.2)) σ H Q := by
  obtain ⟨W, T, i, r, p⟩ := h
  refine ⟨W, T, i, r, (post_bnd p).imp fun xs W1 H1 l ⟨T1, r1, p1⟩ J wk Da hD => ?_⟩
  generalize hvs : own.map (·.2) = vs at *
  -- the invariant
  refine lc_it wk (fun n H' => ∃ W' T' acc us, W1.lf W' ∧ W'.G = upd W1.G Da (.lst us) ∧ H' Da = some (.lst us) ∧ Reps W' acc us ∧ Rel W' (wipeT vs T') (wipe σ vs) H' ∧
    ∃ acc' T'', compL vs g mt me (xs.drop n) acc T' = .ok acc' T'' ∧ post E W1 σ (.ok acc' { T'' with env := restL T1.env T''.env vs }) fun ds W' H' => ∀ p vs, H' p = none → Reps W' ds vs → Q (.ref p) (upd H' p (.lst vs))) ?_ ?_ ?_ ?_
  · have r2 := (r1.wipe vs).ext (same_new (o := .lst []) hD)
    have hF := r1.s.fF hD
    have hs : Da ∉ W1.as := fun z => r1.s.th Da z hD
    have ho : ¬ OwnAt (wipeT vs T1) (wipe σ vs) Da := fun q => ((r1.wipe vs).ownAt q).2.2.2 hD
    have r3 := r2.more (p := Da) (o := .lst []) upd_same hF hs ho
    refine ⟨_, T1, [], [], gd_lf, rfl, upd_same, Reps.nil, r3, ?_⟩
    rw [List.drop_zero]
    cases hc : compL vs g mt me xs [] T1 with
    | ok acc' T'' =>
      rw [hc] at p1
      exact ⟨acc', T'', rfl, p1⟩
    | exc c fs T'' =>
      rw [hc] at p1
      exact p1.elim
    | stuck =>
      rw [hc] at p1
      exact p1.elim
  · rintro n H' _ ⟨W', T', acc, us, lf, _, _, _, r', _⟩
    exact lf.F.trans r'.s.F
  · rintro n x H' H2 hn ⟨W', T', acc, us, lf, hG, hDa, ha, r', acc', T'', hc, pf⟩ y
    obtain ⟨W2, d, l2, r2, hd, hr⟩ := r'.came lf y
    have ed : xs.drop n = d :: xs.drop (n + 1) := by
      obtain ⟨q, e⟩ := List.getElem?_eq_some_iff.mp hd
      rw [← e]
      exact List.drop_eq_getElem_cons q
    rw [ed] at hc
    unfold compL at hc
    have iX : ∀ {W3 : Wd}, W1.lf W3 → In X' W3 := fun {W3} lf3 => hX _ ⟨lf3.K.trans (i.le l).K, lf3.mg.trans (i.le l).mg⟩
    have lf2 := lf.trans l2.tolf
    cases hg : g d (wipeT vs T') with
    | none => rw [hg] at hc; cases hc
    | some T3 =>
      simp only [hg] at hc
      refine ⟨d, W2, wipeT vs T', iX lf2, r2, .of hr, T3, hg, fun W3 σ3 H3 l3 r3 so => ?_⟩
      have ew : wipe σ3 vs = wipe σ vs := (wipe_off so hw).trans (wipe_wipe σ vs)
      have lf3 := lf2.trans l3.tolf
      refine ⟨ew, W3, T3, iX lf3, r3, ?_⟩
      cases hm : mt T3 with
      | exc c fs T4 => rw [hm] at hc; cases hc
      | stuck => rw [hm] at hc; cases hc
      | ok b T4 =>
        rw [hm] at hc
        intro W4 H4 l4 r4
        have lf4 := lf3.trans l4.tolf
        have hG4 : W4.G = upd W1.G Da (.lst us) := l4.G.trans (l3.G.trans (l2.G.trans hG))
        have ha4 := ((ha.mono l2).mono l3).mono l4
        cases b with
        | false =>
          show ∃ W' T' acc us, _
          have r5 := r4.wipe vs
          rw [ew] at r5
          exact ⟨W4, T4, acc, us, lf4, hG4, r4.s.G _ _ (by rw [hG4]; exact upd_same), ha4, r5, acc', T'', hc, pf⟩
        | true =>
          show tm X' E0 me σ3 H4 _
          refine ⟨W4, T4, iX lf4, r4, ?_⟩
          cases hm5 : me T4 with
          | exc c fs T5 => simp only [hm5] at hc; cases hc
          | stuck => simp only [hm5] at hc; cases hc
          | ok e T5 =>
            simp only [hm5] at hc
            intro W5 H5 l5 r5 v hv
            cases ht : isTmp e || decide (sz ≤ acc.length) with
            | true => rw [ht] at hc; cases hc
            | false =>
              rw [ht] at hc
              rw [Bool.or_eq_false_iff] at ht
              have hz := of_decide_eq_false ht.2
              have hG5 : W5.G = upd W1.G Da (.lst us) := l5.G.trans hG4
              have hne : W5.G Da ≠ none := by
                rw [hG5, upd_same]
                exact Option.some_ne_none _
              have ha5 := ha4.mono l5
              refine ⟨us, r5.s.G _ _ (by rw [hG5]; exact upd_same), ?_, ?_⟩
              · rw [ha5.length]
                exact Nat.lt_of_lt_of_le (Nat.lt_of_not_le hz) (sz_line (Nat.le_refl _))
              · have r6 := (r5.wipe vs).grown (p := Da) (o := .lst (us ++ [v])) hne
                rw [ew] at r6
                refine ⟨_, T5, acc ++ [e], us ++ [v], (lf4.trans l5.tolf).trans gd_lf, ?_, upd_same, (ha5.append (Reps.cons (hv.rep ht.1) Reps.nil)).mono' gd_lf, r6, acc', T'', hc, pf⟩
                show upd W5.G Da _ = _
                rw [hG5, upd_upd]
  · rintro H' ⟨W', T', acc, us, lf, hG, hDa, ha, r', acc', T'', hc, pf⟩
    rw [List.drop_length] at hc
    unfold compL at hc
    cases hc
    have hne : W'.G Da ≠ none := by
      rw [hG, upd_same]
      exact Option.some_ne_none _
    have hs1 : Same W1.G W'.G := by
      rw [hG]
      exact same_new (r1.s.fG hD)
    have hF' := r'.s.FG Da hne
    have has' : Da ∉ W'.as := fun z => hne (r'.s.asG Da z)
    have hno := r'.notOwn hne
    have r2 := (r'.less (G := W1.G) hs1).del (p := Da) hF' (r1.s.fG hD) has' hno
    have le : W1.le { W' with G := W1.G } := ⟨⟨lf.K, lf.mg, lf.as, lf.F⟩, rfl⟩
    have r3 := r1.rest le r2
    have q := pf _ _ le r3 Da us hdel_same (ha.mono' gd_lf)
    rw [upd_hdel hDa] at q
    exact q
/-- [elt for g in src if test] -/
theorem ef_comp (hc : X.calm = true) (hN : X.N.Nodup) (hi : IV X E tg iter src) (ok : BlkOk X.N X.env.scope scope own)
    (hg : ∀ (s : Shared) (H : Hp) (C : Addr) (cl : List (Str × Addr)) (fp : List Addr), GV (X.blk s H scope (compEnvC scope cl C X.env) fp) E0 ws tg g) (ht : ∀ (s : Shared) (H : Hp) (C : Addr) (cl : List (Str × Addr)) (fp : List Addr), TV (X.blk s H scope (compEnvC scope cl C X.env) fp) E0 ifs mt)
    (he : ∀ (s : Shared) (H : Hp) (C : Addr) (cl : List (Str × Addr)) (fp : List Addr), EV (X.blk s H scope (compEnvC scope cl C X.env) fp) E0 elt me) (hw : (ws.all fun i => (own.map (·.2)).contains i) = true := by rfl) (hs : ∀ x, foldedSetIterable iter X.env x = pure x := by intro _; rfl) :
    EF X E (.ListComp elt [⟨tg, iter, ifs, 0⟩] scope pos) (fComp (own.map (·.2)) src g mt me) :=
  (pe_lc (g := gt X E0 ws g) (tt := tt X E0 mt) (te := tm X E0 me) hc hN hi ok (fun s H C cl fp => (hg s H C cl fp).imp fun v σ H Q ⟨d, W, T, i, r⟩ => ⟨d, W, T, ⟨i.K, i.mg⟩, r⟩) (fun s H C cl fp => (ht s H C cl fp).imp fun σ H Q ⟨W, T, i, r⟩ => ⟨W, T, ⟨i.K, i.mg⟩, r⟩)
    (fun s H C cl fp => (he s H C cl fp).imp fun σ H Q ⟨W, T, i, r⟩ => ⟨W, T, ⟨i.K, i.mg⟩, r⟩) hs).imp fun σ H Q h => comp_run (fun i hi => by
      have := List.all_eq_true.mp hw i hi
      simpa using this) h X (fun _ i => i) fun _ i => i
/-- y = [..], y a local: kept by the slot, or a value -/
theorem sv_ownLc (i : Nat) {y : Str} {py spos : Pos} (hc : X.calm = true) (hN : X.N.Nodup) (hy : X.N[i]? = some y) (hyl : X.env.scope.names.lookup y = some .local)
    (hsw : swapsWith (.ListComp elt [⟨tg, iter, ifs, 0⟩] scope pos) (some (.Name y py)) spos.line X.env = pure true) (hi : IV X E tg iter src) (ok : BlkOk X.N X.env.scope scope own)
    (hg : ∀ (s : Shared) (H : Hp) (C : Addr) (cl : List (Str × Addr)) (fp : List Addr), GV (X.blk s H scope (compEnvC scope cl C X.env) fp) E0 ws tg g) (ht : ∀ (s : Shared) (H : Hp) (C : Addr) (cl : List (Str × Addr)) (fp : List Addr), TV (X.blk s H scope (compEnvC scope cl C X.env) fp) E0 ifs mt)
    (he : ∀ (s : Shared) (H : Hp) (C : Addr) (cl : List (Str × Addr)) (fp : List Addr), EV (X.blk s H scope (compEnvC scope cl C X.env) fp) E0 elt me) (hw : (ws.all fun i => (own.map (·.2)).contains i) = true := by rfl) (hs : ∀ x, foldedSetIterable iter X.env x = pure x := by intro _; rfl) :
    SV X E (.Assign [.Name y py] (.ListComp elt [⟨tg, iter, ifs, 0⟩] scope pos) spos) (sOwn i (fComp (own.map (·.2)) src g mt me)) ∧ SV X E (.Assign [.Name y py] (.ListComp elt [⟨tg, iter, ifs, 0⟩] scope pos) spos) (sSet i (vL (fComp (own.map (·.2)) src g mt me))) := by
  have base := ps_setLc (g := gt X E0 ws g) (tt := tt X E0 mt) (te := tm X E0 me) hc hN hy hyl hsw hi ok (fun s H C cl fp => (hg s H C cl fp).imp fun v σ H Q ⟨d, W, T, i, r⟩ => ⟨d, W, T, ⟨i.K, i.mg⟩, r⟩) (fun s H C cl fp => (ht s H C cl fp).imp fun σ H Q ⟨W, T, i, r⟩ => ⟨W, T, ⟨i.K, i.mg⟩, r⟩)
    (fun s H C cl fp => (he s H C cl fp).imp fun σ H Q ⟨W, T, i, r⟩ => ⟨W, T, ⟨i.K, i.mg⟩, r⟩) hs
  have run : ∀ (σ : L2.St) (H : Hp) (Q : VK), tf X E (fComp (own.map (·.2)) src g mt me) σ H Q → tLc (ti X E src) (gt X E0 ws g) (tt X E0 mt) (tm X E0 me) (own.map (·.2)) σ H Q := fun σ H Q h => comp_run (fun i hi => by
      have := List.all_eq_true.mp hw i hi
      simpa using this) h X (fun _ i => i) fun _ i => i
  constructor
  · refine base.imp fun D σ H h => run σ H _ ?_
    obtain ⟨W, T, iw, r, p⟩ := h
    exact ⟨W, T, iw, r, (spost_of p).imp fun ds W1 H1 l ⟨T1, r1, p1⟩ p vs hp hr => snx (r1.newOwn hp (mo := .lst ds) ⟨vs, upd_same, hr⟩) p1⟩
  · refine base.imp fun D σ H h => run σ H _ ?_
    obtain ⟨W, T, iw, r, p⟩ := h
    refine ⟨W, T, iw, r, ?_⟩
    have p2 : post E W σ (vL (fComp (own.map (·.2)) src g mt me) T) _ := spost_of p
    refine (post_bnd p2).imp fun ds W1 H1 l ⟨T1, r1, p1⟩ p vs hp hr => ?_
    obtain ⟨T2, r2, p3⟩ := p1 _ _ (r1.putLe hp) (r1.put hp)
    have rp := mkLst (σ := σ) (put_F (W := W1) (p := p) (o := .lst vs)) (hr.mono (r1.putLe hp))
    exact snx (r2.setV (show Rep _ (.lst ds) _ from rp)) p3
end

/-! ### a def's body -/
section
variable {P : Program} {w : World} {K : PySem.W.Frag} {mg : Str → Option Value} {base : Heap}
theorem start_rel {W : Wd} {st : List MO} {H : Hp} {N : List Str} {ds : List D} {vs : List V} (r : RelS W st H) (h : Reps W ds vs) (hl : ds.length ≤ N.length) : Rel W ⟨ds.map Sl.val ++ List.replicate (N.length - ds.length) Sl.emp, st⟩ (L2.start N vs) H := by
  refine ⟨r, ⟨?_, fun i d e => ?_, fun i mo e => ?_, fun i j mi mj a e1 => ?_⟩⟩
  · simp [L2.start, h.length]
  · have e : (ds.map Sl.val ++ List.replicate (N.length - ds.length) Sl.emp)[i]? = some (.val d) := e
    by_cases hi : i < ds.length
    · rw [List.getElem?_append_left (by simpa using hi), List.getElem?_map] at e
      cases q : ds[i]? with
      | none => rw [q] at e; cases e
      | some d' =>
        rw [q] at e
        cases e
        obtain ⟨v, h1, h2⟩ := h.get q
        refine ⟨v, ?_, h2⟩
        unfold L2.start
        rw [List.getElem?_append_left (by rw [List.length_map, h.length]; exact hi), List.getElem?_map, h1]
        rfl
    · rw [List.getElem?_append_right (by simpa using hi), List.getElem?_replicate] at e
      split at e <;> cases e
  all_goals
    exfalso
    first
      | (have e : (ds.map Sl.val ++ List.replicate (N.length - ds.length) Sl.emp)[i]? = some (.own mo) := e
         by_cases hi : i < ds.length
         · rw [List.getElem?_append_left (by simpa using hi), List.getElem?_map] at e
           cases q : ds[i]? with
           | none => rw [q] at e; cases e
           | some d' => rw [q] at e; cases e
         · rw [List.getElem?_append_right (by simpa using hi), List.getElem?_replicate] at e
           split at e <;> cases e)
      | (have e : (ds.map Sl.val ++ List.replicate (N.length - ds.length) Sl.emp)[i]? = some (.own mi) := e1
         by_cases hi : i < ds.length
         · rw [List.getElem?_append_left (by simpa using hi), List.getElem?_map] at e
           cases q : ds[i]? with
           | none => rw [q] at e; cases e
           | some d' => rw [q] at e; cases e
         · rw [List.getElem?_append_right (by simpa using hi), List.getElem?_replicate] at e
           split at e <;> cases e)
/-- a def out of which no exception comes, by its body's mirror -/
theorem def_ok {x qual : Str} {st : Stmt} {f : Addr} {fd : FuncData} {N ps : List Str} {k : Nat} {b : MS} (F : Fun K x qual st f fd) (S : FnScope N ps (defScope st)) (hl : ps.length ≤ N.length)
    (body : ∀ (cdv : Value) (A : Around) (outer : List Env) (s : Shared) (H : Hp) (E : XK), RoomG k (A.deeper (envOfC qual (defScope st) s.heap.objs.size f cdv)) → BV' (cxOf CX0 P w K mg base N qual (defScope st) f cdv A outer s H E).nox E (defBody st) b) :
    FnG P w K mg base CX0 (k + 1) f fd ps (spF K mg ps.length (runB b N.length)) :=
  okG F S (fun vs H Q E h => spF_len vs H Q E h) fun cdv A outer s H vs Q E hr h => by
    refine ⟨_, (body cdv A outer s H E hr).nox, ?_⟩
    obtain ⟨W, ds, st', h1, h2, r, rp, hn, p⟩ := h
    refine ⟨W, ⟨ds.map Sl.val ++ List.replicate (N.length - ds.length) Sl.emp, st'⟩, ⟨h1, h2⟩, start_rel r rp (by omega), ?_⟩
    unfold runB at p
    cases hb : b ⟨ds.map Sl.val ++ List.replicate (N.length - ds.length) Sl.emp, st'⟩ with
    | nx T =>
      rw [hb] at p
      exact fun W' σ' H' l r' => p W' H' .non l r'.s (by simp only [Rep])
    | rt d T =>
      rw [hb] at p
      exact p
    | exc c fs T =>
      rw [hb] at p
      exact p
    | bk T => rw [hb] at p; exact p.elim
    | ct T => rw [hb] at p; exact p.elim
    | stuck => rw [hb] at p; exact p.elim
end
end FL

set_option Elab.async false
set_option linter.all false
set_option maxRecDepth 100000
set_option maxHeartbeats 4000000
set_option exponentiation.threshold 20000
/-! FL12: repr, ranges as lists, texts joined, dicts. -/
namespace FL
open PySem PySem.Spec PyProof.Rows L2

section
variable {X : Cx} {pins : List (Addr × Obj)} {σ : L2.St} {H : Hp} {s : Shared}
/-- the table of modules stands -/
def SysN (base : Heap) : Prop := ∃ o, base.get? sysModules = some o
theorem not_mods (hS : SysN X.base) (I : Inv X pins σ H s) {a : Addr} {o : HO} (h : H a = some o) : a ≠ sysModules := fun z => by
  obtain ⟨ob, ho⟩ := hS
  have := (I.bs _ _ ho).2
  rw [← z, h] at this
  cases this
mutual
theorem reads_of (hS : SysN X.base) (I : Inv X pins σ H s) {W : Wd} (iw : In X W) (hF : Same W.F H) : ∀ (d : D) (v : V) (u : Value) (p : PyData), Rep W d v → RelV v u → toR d = some p → ∃ as, Reads s.heap u p as ∧ sysModules ∉ as
  | .non, v, u, p, h, r, e => by
    simp only [Rep] at h
    simp only [toR] at e
    cases e
    subst h
    cases r
    exact ⟨_, .none, by simp⟩
  | .bl b, v, u, p, h, r, e => by
    simp only [Rep] at h
    simp only [toR] at e
    cases e
    subst h
    cases r
    exact ⟨_, .bool b, by simp⟩
  | .int i, v, u, p, h, r, e => by
    simp only [Rep] at h
    simp only [toR] at e
    cases e
    subst h
    obtain ⟨t, rfl⟩ := r
    exact ⟨_, .int i t, by simp⟩
  | .str x, v, u, p, h, r, e => by
    simp only [Rep] at h
    simp only [toR] at e
    cases e
    subst h
    obtain ⟨t, rfl⟩ := r
    exact ⟨_, .str x t, by simp⟩
  | .tup xs, v, u, p, h, r, e => by
    simp only [Rep] at h
    simp only [toR] at e
    obtain ⟨a, vs, rfl, sq, rp⟩ := h
    cases q : toRs xs with
    | none => rw [q] at e; cases e
    | some ps =>
      rw [q] at e
      cases e
      cases r
      rw [iw.K] at sq
      obtain ⟨its, rv, ⟨o, ho, hc, n, hd⟩, _⟩ := I.tuple (sqT_same hF sq)
      obtain ⟨as, hr, hn⟩ := readsAll_of hS I iw hF xs vs its ps rp rv q
      exact ⟨_, .tuple ho hc hd hr, hn⟩
  | .lst xs, v, u, p, h, r, e => by
    simp only [Rep] at h
    simp only [toR] at e
    obtain ⟨a, vs, rfl, sq, rp⟩ := h
    cases q : toRs xs with
    | none => rw [q] at e; cases e
    | some ps =>
      rw [q] at e
      cases e
      cases r
      obtain ⟨its, rv, ⟨o, n, ho, hc, _, hd⟩, _⟩ := I.list (SqL.of (hF _ _ sq))
      obtain ⟨as, hr, hn⟩ := readsAll_of hS I iw hF xs vs its ps rp rv q
      exact ⟨_, .list ho hc hd hr, fun z => by
        rcases List.mem_cons.mp z with z | z
        · exact not_mods hS I (hF _ _ sq) z.symm
        · exact hn z⟩
  | .dic ks ds, v, u, p, h, r, e => by
    cases ks with
    | cons k ks => simp only [toR] at e; cases e
    | nil =>
      cases ds with
      | cons d ds => simp only [toR] at e; cases e
      | nil =>
        simp only [Rep] at h
        simp only [toR] at e
        cases e
        obtain ⟨a, vs, rfl, _, sq, rp⟩ := h
        cases r
        have hH : H a = some (.dK []) := by
          have := hF _ _ sq
          simpa using this
        obtain ⟨_, _, ks, kv, o, es, ep, ho, hx, hd, _, hp, _⟩ := dk_of I.hok hH
        cases kv
        have hes : es.toList = [] := by
          generalize es.toList = l at hp
          cases hp
          rfl
        refine ⟨[a] ++ [], .dict ho hx.1 hd ?_ ?_, ?_⟩
        · rw [hes]
          exact .nil
        · rw [hes]
          exact .nil
        · simp only [List.append_nil, List.mem_singleton]
          exact fun z => not_mods hS I hH z.symm
  | .scr ns, v, u, p, h, r, e => by simp only [toR] at e; cases e
  | .obj n, v, u, p, h, r, e => by simp only [toR] at e; cases e
  | .own i, v, u, p, h, r, e => by simp only [toR] at e; cases e
  | .ty n, v, u, p, h, r, e => by simp only [toR] at e; cases e
  | .gl x, v, u, p, h, r, e => by simp only [toR] at e; cases e
theorem readsAll_of (hS : SysN X.base) (I : Inv X pins σ H s) {W : Wd} (iw : In X W) (hF : Same W.F H) : ∀ (ds : List D) (vs : List V) (us : List Value) (ps : List PyData), Reps W ds vs → Vals vs us → toRs ds = some ps → ∃ as, ReadsAll s.heap us ps as ∧ sysModules ∉ as
  | [], vs, us, ps, h, r, e => by
    rw [h.invN] at r
    cases r
    simp only [toRs] at e
    cases e
    exact ⟨_, .nil, by simp⟩
  | d :: ds, vs, us, ps, h, r, e => by
    obtain ⟨v, vr, rfl, h1, h2⟩ := h.inv
    cases r with
    | cons r1 r2 =>
      simp only [toRs] at e
      cases q : toR d with
      | none => rw [q] at e; cases e
      | some p =>
        cases q2 : toRs ds with
        | none => rw [q, q2] at e; cases e
        | some ps' =>
          rw [q, q2] at e
          cases e
          obtain ⟨as, g1, n1⟩ := reads_of hS I iw hF d v _ p h1 r1 q
          obtain ⟨bs, g2, n2⟩ := readsAll_of hS I iw hF ds vr _ ps' h2 r2 q2
          exact ⟨_, .cons g1 g2, fun z => (List.mem_append.mp z).elim n1 n2⟩
end
end

section
variable {X : Cx} {E : XK} {e a b c : Expr} {es : List Expr} {ma mb mc : M D} {mr : M (List D)} {pos : Pos}
/-- what repr reads -/
def rRepr (X : Cx) : List V → Hp → VK → Prop := fun xs H Q => ∃ x d W T σ, xs = [x] ∧ In X W ∧ Rel W T σ H ∧ RepT W σ d x ∧ ∃ p, toRT T d = some p ∧ shows p = true ∧ Q (.str p.shown) H
theorem call_repr {k : Nat} (hS : SysN X.base) (hr : RoomG k X.A) : CallR X (.builtin "repr") (rRepr X) := by
  intro pins s σ H xs us Q I r h
  obtain ⟨x, d, W, T, σ', rfl, iw, rl, hx, p, hp, hs, q⟩ := h
  obtain ⟨u, rfl, ru⟩ := vals1 r
  unfold shows at hs
  rw [Bool.and_eq_true, Bool.and_eq_true] at hs
  obtain ⟨⟨h1, h2⟩, h3⟩ := hs
  have h2 := of_decide_eq_true h2
  have h3 := of_decide_eq_true h3
  have key : ∃ as, Reads s.heap u p as ∧ sysModules ∉ as := by
    unfold toRT at hp
    split at hp
    · rename_i ys hv
      obtain ⟨a, vs, rfl, sl, rp⟩ := rl.vLst hx hv
      cases q2 : toRs ys with
      | none => rw [q2] at hp; cases hp
      | some ps =>
        rw [q2] at hp
        cases hp
        cases ru
        obtain ⟨its, rv, ⟨o, n, ho, hc, _, hd⟩, _⟩ := I.list (SqL.of sl)
        obtain ⟨as, hr', hn⟩ := readsAll_of hS I iw rl.s.F ys vs its ps rp rv q2
        exact ⟨_, .list ho hc hd hr', fun z => by
          rcases List.mem_cons.mp z with z | z
          · exact not_mods hS I sl z.symm
          · exact hn z⟩
    · cases d <;> first | exact reads_of hS I iw rl.s.F _ x u p hx ru hp | (simp only [toR] at hp; cases hp)
  obtain ⟨as, hR, hn⟩ := key
  have hu := hr.room.units
  have fin : ∀ {a : Addr}, Reads s.heap (.ref a) p as → wpAny (model X.prog X.w) X.A (call (.builtin "repr") [.ref a]) (EP X pins σ Q) X.xe s := fun {a} hR =>
    repr_of_reads' hR h1 (fun _ => hn) hr.g (by omega) (fun _ _ e => e) (fun h' u tk hk => ⟨.str p.shown, H, I.kept hk, ⟨_, rfl⟩, q⟩) h3
  cases hR with
  | none => exact PySem.P.repr_of_none ⟨.str _, H, I.tok _, ⟨_, rfl⟩, q⟩
  | bool b => exact PySem.P.repr_of_bool ⟨.str _, H, I.tok _, ⟨_, rfl⟩, q⟩
  | int i t =>
    simp only [PyData.showable] at h1
    exact PySem.P.repr_of_int (of_decide_eq_true h1) ⟨.str _, H, I.tok _, ⟨_, rfl⟩, q⟩
  | str x t => exact PySem.P.repr_of_str ⟨.str _, H, I.tok _, ⟨_, rfl⟩, q⟩ h3
  | list g1 g2 g3 g4 => exact fin (.list g1 g2 g3 g4)
  | tuple g1 g2 g3 g4 => exact fin (.tuple g1 g2 g3 g4)
  | dict g1 g2 g3 g4 g5 => exact fin (.dict g1 g2 g3 g4 g5)
theorem b_repr : BiOk X (rRepr X) biRepr := fun W T σ H ds z vs Q i r hv e k => by
  unfold biRepr at e
  split at e
  · obtain ⟨v, rfl, h1⟩ := hv.one
    rename_i x
    cases q : toRT T x with
    | none => rw [q] at e; cases e
    | some p =>
      rw [q] at e
      have e : (if shows p then some (D.str p.shown) else none) = some z := e
      by_cases hs : shows p = true
      · rw [if_pos hs] at e
        cases e
        exact ⟨v, x, W, T, σ, rfl, i, r, h1, p, q, hs, k W H (Wd.le.refl W) r _ mkStr⟩
      · rw [if_neg hs] at e
        cases e
  · cases e

/-! ### range as a list, as a tuple -/
theorem rg_vals {W : Wd} {a b : Int} : Reps W (rgD a b) (rgV a b) := by
  unfold rgD rgV
  induction (List.range (b - a).toNat) with
  | nil => exact Reps.nil
  | cons i l ih => exact Reps.cons (by simp only [Rep]) ih
theorem rgOk_of {a b : Int} (h : rgOk a b = true) : RgOk a b := by
  have h := of_decide_eq_true h
  refine ⟨by omega, by omega, by omega, by omega, ?_⟩
  have : (b - a).toNat ≤ 2000000 := by omega
  omega
def vRg1 (m : M D) : M (List D) := bnd m fun x => lift fun _ => rg1 x
def vRg2 (m1 m2 : M D) : M (List D) := bnd m1 fun x => bnd m2 fun y => lift fun _ => rg2 x y
theorem ef_listR1 {p1 p2 q2 : Pos} (hc : X.calm = true) (hgl : Gl X "list") (hml : X.mg "list" = none) (hg : Gl X "range") (hm : X.mg "range" = none) (ha : EV X E a ma) (na : starEach [a] X.env = (false, eval a X.env) :: starEach [] X.env := by rfl)
    (nb : starEach [.Call (.Name "range" p2) [a] [] q2] X.env = (false, eval (.Call (.Name "range" p2) [a] [] q2) X.env) :: starEach [] X.env := by rfl) : EF X E (.Call (.Name "list" p1) [.Call (.Name "range" p2) [a] [] q2] [] pos) (vRg1 ma) :=
  (pe_listRg hc hgl hml (prg_1 hg hm ha na) nb).imp fun σ H Q h => by
    obtain ⟨W, T, i, r, p⟩ := h
    refine (tm_bnd i r p).imp fun v H1 q => ?_
    obtain ⟨d, W1, T1, l, i1, r1, hv, p1⟩ := q
    obtain ⟨z, e, k⟩ := post_lift r1 p1
    cases d <;> simp only [rg1] at e <;> try (cases e)
    rename_i n
    by_cases hb : rgOk 0 n = true
    · rw [if_pos hb] at e
      cases e
      exact ⟨n, rInt hv, rgOk_of hb, fun p hp => k W1 H1 (Wd.le.refl _) r1 p _ hp rg_vals⟩
    · rw [if_neg hb] at e
      cases e
theorem ev_tupR2 {p1 p2 q2 : Pos} (hc : X.calm = true) (hgl : Gl X "tuple") (hml : X.mg "tuple" = none) (hg : Gl X "range") (hm : X.mg "range" = none) (ha : EV X E a ma) (hb : EV X E b mb) (na : starEach [a, b] X.env = (false, eval a X.env) :: starEach [b] X.env := by rfl) (nb : starEach [b] X.env = (false, eval b X.env) :: starEach [] X.env := by rfl)
    (hpl : (backTo q2 (starEach [b] X.env)).any (·.1) = false := by rfl) (nc : starEach [.Call (.Name "range" p2) [a, b] [] q2] X.env = (false, eval (.Call (.Name "range" p2) [a, b] [] q2) X.env) :: starEach [] X.env := by rfl) :
    EV X E (.Call (.Name "tuple" p1) [.Call (.Name "range" p2) [a, b] [] q2] [] pos) (bnd (vRg2 ma mb) fun xs => ret (.tup xs)) :=
  (pe_tupRg hc hgl hml (prg_2 hg hm ha hb na nb hpl) nc).imp fun σ H Q h => by
    obtain ⟨W, T, i, r, p⟩ := h
    have p' : post E W σ (bnd ma (fun x => bnd mb fun y => bnd (lift fun _ => rg2 x y) fun xs => ret (D.tup xs)) T) fun d W' H' => ∀ v, RepT W' σ d v → Q v H' := by
      have e0 : (bnd (vRg2 ma mb) fun xs => ret (D.tup xs)) = bnd ma (fun x => bnd mb fun y => bnd (lift fun _ => rg2 x y) fun xs => ret (D.tup xs)) := by
        funext T
        unfold vRg2 bnd
        cases ma T with
        | ok d T1 =>
          simp only [andThen_ok]
          cases mb T1 <;> rfl
        | exc c fs T1 => rfl
        | stuck => rfl
      rw [e0] at p
      exact p
    refine (tm_bnd i r p').imp fun v H1 q => ?_
    obtain ⟨d, W1, T1, l, i1, r1, hv, p1⟩ := q
    refine (tm_bnd i1 r1 p1).imp fun w H2 q => ?_
    obtain ⟨d2, W2, T2, l2, i2, r2, hw, p2⟩ := q
    obtain ⟨z, e, k⟩ := post_lift r2 (post_bnd p2)
    obtain ⟨T3, r3, p3⟩ := k W2 H2 (Wd.le.refl _) r2
    cases d <;> cases d2 <;> simp only [rg2] at e <;> try (cases e)
    rename_i a b
    by_cases hb : rgOk a b = true
    · rw [if_pos hb] at e
      cases e
      have h1 := rInt (hv.mono l2)
      exact ⟨a, b, h1, rInt hw, rgOk_of hb, fun p hp => r3.newTup rg_vals p3 p hp⟩
    · rw [if_neg hb] at e
      cases e

/-! ### texts joined, a list turned about -/
theorem toStrs_map : ∀ {ds : List D} {ns : List Str}, toStrs ds = some ns → ds = ns.map D.str
  | [], ns, h => by cases h; rfl
  | d :: ds, ns, h => by
    cases d <;> simp only [toStrs] at h <;> try (cases h)
    rename_i i
    cases q : toStrs ds with
    | none => rw [q] at h; cases h
    | some ms =>
      rw [q] at h
      cases h
      rw [toStrs_map q]
      rfl
theorem Reps.strs {W : Wd} : ∀ {ns : List Str} {vs : List V}, Reps W (ns.map D.str) vs → vs = ns.map V.str
  | [], vs, h => h.invN
  | n :: ns, vs, h => by
    obtain ⟨v, r, rfl, h1, t⟩ := h.inv
    simp only [Rep] at h1
    rw [h1, Reps.strs t]
    rfl
def mJoin (ma mb : M D) : M D := bnd ma fun x T => match x with
  | .str _ => bnd mb (fun y => lift fun T => opJoin T x y) T
  | _ => .stuck
theorem ev_join {apos : Pos} (ha : EV X E a ma) (hb : EV X E b mb) (hs : starEach [b] X.env = [(false, eval b X.env)] := by rfl) (hbase : attributeBase a "join" X.env (eval a X.env) = eval a X.env := by rfl) (hline : (apos.endLine == pos.line) = true := by rfl) :
    EV X E (.Call (.Attribute a "join" apos) [b] [] pos) (mJoin ma mb) := (pe_join ha hb hs hbase hline).imp fun σ H Q h => by
  obtain ⟨W, T, i, r, p⟩ := h
  refine (tm_bnd i r p).imp fun v H1 q => ?_
  obtain ⟨d1, W1, T1, l1, i1, r1, v1, p1⟩ := q
  cases d1 <;> try (exact p1.elim)
  rename_i z
  rw [rStr v1]
  refine ⟨⟨z, rfl⟩, ?_⟩
  refine (tm_bnd i1 r1 p1).imp fun w H2 q => ?_
  obtain ⟨d2, W2, T2, l2, i2, r2, v2, p2⟩ := q
  obtain ⟨zz, e, k⟩ := post_lift r2 p2
  have e : ((seqT T2 d2).bind fun xs => (toStrs xs).bind fun ys => if (ys.map (·.length)).sum + ys.length * z.length ≤ sz then some (D.str (Txt.join z ys)) else none) = some zz := e
  unfold seqT at e
  have fin : ∀ xs : List D, ((toStrs xs).bind fun ys => if (ys.map (·.length)).sum + ys.length * z.length ≤ sz then some (D.str (Txt.join z ys)) else none) = some zz → ∃ ys : List Str, xs = ys.map D.str ∧ (ys.map (·.length)).sum + ys.length * z.length ≤ 16777216 ∧ zz = .str (Txt.join z ys) := by
    intro xs e
    cases q : toStrs xs with
    | none => rw [q] at e; cases e
    | some ys =>
      rw [q] at e
      have e : (if (ys.map (·.length)).sum + ys.length * z.length ≤ sz then some (D.str (Txt.join z ys)) else none) = some zz := e
      by_cases hb : (ys.map (·.length)).sum + ys.length * z.length ≤ sz
      · rw [if_pos hb] at e
        cases e
        have : sz ≤ 16777216 := by decide
        exact ⟨ys, toStrs_map q, by omega, rfl⟩
      · rw [if_neg hb] at e
        cases e
  split at e
  · rename_i xs hv
    obtain ⟨ys, rfl, h1, rfl⟩ := fin xs e
    obtain ⟨a, vs, rfl, h2, h3⟩ := r2.vLst v2 hv
    rw [h3.strs] at h2
    exact ⟨z, a, ys, rfl, rfl, .inl (SqL.of h2), h1, k W2 H2 (Wd.le.refl _) r2 _ mkStr⟩
  · rename_i xs hv
    obtain ⟨ys, rfl, h1, rfl⟩ := fin xs e
    obtain ⟨a, vs, rfl, h2, h3⟩ := r2.vTup v2 hv
    rw [h3.strs] at h2
    exact ⟨z, a, ys, rfl, rfl, .inr (by rw [← i2.K]; exact h2), h1, k W2 H2 (Wd.le.refl _) r2 _ mkStr⟩
  · cases e
theorem Reps.reverse {W : Wd} : ∀ {ds : List D} {vs : List V}, Reps W ds vs → Reps W ds.reverse vs.reverse
  | [], vs, h => by
    rw [h.invN]
    exact Reps.nil
  | d :: ds, vs, h => by
    obtain ⟨v, vr, rfl, h1, h2⟩ := h.inv
    rw [List.reverse_cons, List.reverse_cons]
    exact Reps.append (Reps.reverse h2) (Reps.cons h1 Reps.nil)
theorem ev_rev {kk : Nat} {p1 p2 p3 : Pos} (ha : EV X E a ma) : EV X E (.Subscript a (.Slice none none (some (.UnaryOp .USub (.Constant (.int 1) kk p1) p2)) p3) pos) (op1 opRev ma) := (pe_revL ha).imp fun σ H Q h => by
  have g : tUn (fun v H Q => ∃ a xs, v = .ref a ∧ SqL X.K H a xs ∧ ∀ p, H p = none → Q (.ref p) (upd H p (.lst xs.reverse))) (tm X E ma) σ H Q := op1_run h fun W T σ H x z v Q i r hx e k => by
    unfold opRev listOf at e
    split at e
    · rename_i xs hv
      cases e
      obtain ⟨a, vs, rfl, h2, h3⟩ := r.vLst hx hv
      exact ⟨a, vs, rfl, SqL.of h2, fun p hp => r.newLst h3.reverse (fun W' H' l r' u hu => k W' H' l r' u hu) p hp⟩
    · cases e
  exact g

/-! ### dicts -/
theorem lookD_val {W : Wd} (k : Ky) : ∀ {ks : List Ky} {ds : List D} {vs : List V}, ks.length = ds.length → Reps W ds vs → match lookD ks ds k with
    | some d => ∃ v, valV (ks.zip vs) k = some v ∧ Rep W d v
    | none => valV (ks.zip vs) k = none
  | [], ds, vs, _, _ => by
    simp only [lookD, List.zip_nil_left]
    exact valV_nil
  | x :: ks, [], vs, h, _ => by cases h
  | x :: ks, d :: ds, vs, h, r => by
    obtain ⟨v, vr, rfl, h1, h2⟩ := r.inv
    simp only [lookD, List.zip_cons_cons]
    by_cases hx : x = k
    · rw [if_pos hx]
      exact ⟨v, valV_pos hx, h1⟩
    · rw [if_neg hx]
      have ih := lookD_val (W := W) k (Nat.succ.inj h) h2
      rw [valV_neg (p := (x, v)) hx]
      exact ih
theorem toKy_val {W : Wd} {σ : L2.St} {y : D} {w : V} {k : Ky} (h : RepT W σ y w) (e : toKy y = some k) : w = kV k := by
  cases y <;> simp only [toKy] at e <;> cases e
  · exact rInt h
  · exact rStr h
theorem ev_dget (hu : X.A.units + 1 < cLine) (ha : EV X E a ma) (hb : EV X E b mb) (hs : NoSl b) : EV X E (.Subscript a b pos) (op2 opDGet ma mb) := (pe_dget hu ha hb hs).imp fun σ H Q h => by
  have g : tOp (fun x y H Q => ∃ a v, x = .ref a ∧ DGet H a y (some v) ∧ Q v H) (tm X E ma) (tm X E mb) σ H Q := op2_run h fun W T σ H x y z v w Q i r hx hy e k => by
    unfold opDGet at e
    split at e
    · rename_i ks ds hv
      obtain ⟨a, vs, rfl, h0, h1, h2⟩ := r.vDic hx hv
      cases q : toKy y with
      | none => rw [q] at e; cases e
      | some kk =>
        rw [q] at e
        have e : lookD ks ds kk = some z := e
        have hl := lookD_val (W := W) kk h0 h2
        rw [e] at hl
        obtain ⟨u, hu, hr⟩ := hl
        refine ⟨a, u, rfl, .inl ⟨_, kk, .inl h1, toKy_val hy q, hu.symm⟩, k W H (Wd.le.refl _) r u (.of hr)⟩
    · cases e
  exact g
theorem op_inD (hu : X.A.units + 1 < cLine) : OpR X (compareOp .In) (fun y x H Q => ∃ a o, x = .ref a ∧ DGet H a y o ∧ Q (.bl o.isSome) H) := by
  intro pins s σ H x y v u Q I rx ry h
  obtain ⟨a, o, rfl, g, q⟩ := h
  cases ry
  exact d_in hu I g rx fun s' I' => ⟨.bl o.isSome, H, I', rfl, q⟩
theorem op_notInD (hu : X.A.units + 1 < cLine) : OpR X (compareOp .NotIn) (fun y x H Q => ∃ a o, x = .ref a ∧ DGet H a y o ∧ Q (.bl (!o.isSome)) H) := by
  intro pins s σ H x y v u Q I rx ry h
  obtain ⟨a, o, rfl, g, q⟩ := h
  cases ry
  exact d_notIn hu I g rx fun s' I' => ⟨.bl (!o.isSome), H, I', rfl, q⟩
theorem din_run {W : Wd} {T : MT} {σ : L2.St} {H : Hp} {y x : D} {v w : V} {b : Bool} (r : Rel W T σ H) (hy : RepT W σ y v) (hx : RepT W σ x w) (e : opDIn T y x = some b) : ∃ a o, w = .ref a ∧ DGet H a v o ∧ o.isSome = b := by
  unfold opDIn at e
  split at e
  · rename_i ks ds hv
    obtain ⟨a, vs, rfl, h0, h1, h2⟩ := r.vDic hx hv
    cases q : toKy y with
    | none => rw [q] at e; cases e
    | some kk =>
      rw [q] at e
      cases e
      have hl := lookD_val (W := W) kk h0 h2
      refine ⟨a, _, rfl, .inl ⟨_, kk, .inl h1, toKy_val hy q, rfl⟩, ?_⟩
      cases z : lookD ks ds kk with
      | none =>
        rw [z] at hl
        rw [hl]
        show _ = (lookD ks ds kk).isSome
        rw [z]
        rfl
      | some d =>
        rw [z] at hl
        obtain ⟨u, hu, _⟩ := hl
        rw [hu]
        show _ = (lookD ks ds kk).isSome
        rw [z]
        rfl
  · cases e
theorem c_inD : CmpOk X (fun y x H Q => ∃ a o, x = .ref a ∧ DGet H a y o ∧ Q (.bl o.isSome) H) opDIn := fun W T σ H x y b v w Q i r hx hy e q => by
  obtain ⟨a, o, h1, h2, rfl⟩ := din_run r hx hy e
  exact ⟨a, o, h1, h2, q⟩
theorem c_notInD : CmpOk X (fun y x H Q => ∃ a o, x = .ref a ∧ DGet H a y o ∧ Q (.bl (!o.isSome)) H) opDNotIn := fun W T σ H x y b v w Q i r hx hy e q => by
  unfold opDNotIn at e
  cases z : opDIn T x y with
  | none => rw [z] at e; cases e
  | some c =>
    rw [z] at e
    cases e
    obtain ⟨a, o, h1, h2, rfl⟩ := din_run r hx hy z
    exact ⟨a, o, h1, h2, q⟩

/-! ### dicts of the module -/
/-- a dict of the module by its name -/
structure TabX (X : Cx) (x : Str) (tab : List (Str × D)) : Prop where
  at_ : ∃ a es n, X.mg x = some (.ref a) ∧ KDict X.K X.w a es n ∧ (∀ z, ∃ r, PySem.W.nsIn X.K a z = some r ∧ (tab.lookup z).isSome = r.isSome) ∧
    ∀ z d, tab.lookup z = some d → ∃ u v, PySem.W.nsIn X.K a z = some (some u) ∧ RelV v u ∧ ∀ W, In X W → Rep W d v
def opTIn (x : Str) (tab : List (Str × D)) : Cmp := fun _ y z => match y, z with
  | .str k, .gl n => if n = x then some (tab.lookup k).isSome else none
  | _, _ => none
def opTNotIn (x : Str) (tab : List (Str × D)) : Cmp := fun T y z => (opTIn x tab T y z).map (!·)
def opTIx (x : Str) (tab : List (Str × D)) : MT → D → D → Option D := fun _ z y => match y, z with
  | .str k, .gl n => if n = x then tab.lookup k else none
  | _, _ => none
theorem op_inT (x : Str) : OpR X (compareOp .In) (fun y v H Q => ∃ (z : Str) (d : Addr) (es : Array DictEntry) (n : Nat) (r : Option Value), KDict X.K X.w d es n ∧ y = .str z ∧ v = .ref d ∧ PySem.W.nsIn X.K d z = some r ∧ Q (.bl r.isSome) H) := by
  intro pins s σ H y v u w Q I rx ry h
  obtain ⟨z, d, es, n, r, D, h1, h2, h3, q⟩ := h
  exact op_in_kd D pins s σ H y v u w Q I rx ry ⟨z, r, h1, h2, h3, q⟩
theorem op_notInT (x : Str) : OpR X (compareOp .NotIn) (fun y v H Q => ∃ (z : Str) (d : Addr) (es : Array DictEntry) (n : Nat) (r : Option Value), KDict X.K X.w d es n ∧ y = .str z ∧ v = .ref d ∧ PySem.W.nsIn X.K d z = some r ∧ Q (.bl (!r.isSome)) H) := by
  intro pins s σ H y v u w Q I rx ry h
  obtain ⟨z, d, es, n, r, D, h1, h2, h3, q⟩ := h
  exact op_notIn_kd D pins s σ H y v u w Q I rx ry ⟨z, r, h1, h2, h3, q⟩
theorem rel_ref {w : V} {a : Addr} (h : L2.RelV w (.ref a)) : w = .ref a := by
  cases w with
  | ref b => exact congrArg V.ref (Value.ref.inj h).symm
  | non => cases h
  | bl b => cases h
  | ty n => cases h
  | int i => obtain ⟨_, h⟩ := h; cases h
  | str i => obtain ⟨_, h⟩ := h; cases h
  | flt i => obtain ⟨_, h⟩ := h; cases h
  | byt i => obtain ⟨_, h⟩ := h; cases h
theorem gl_at {W : Wd} {σ : L2.St} {x : Str} {w : V} {a : Addr} (i : In X W) (h : RepT W σ (.gl x) w) (m : X.mg x = some (.ref a)) : w = .ref a := by
  have h : Rep W (.gl x) w := h
  simp only [Rep] at h
  obtain ⟨u, h1, h2⟩ := h
  rw [i.mg, m] at h1
  cases h1
  exact rel_ref h2
theorem opTIn_inv {x : Str} {tab : List (Str × D)} {T : MT} {y z : D} {b : Bool} (e : opTIn x tab T y z = some b) : ∃ k, y = .str k ∧ z = .gl x ∧ b = (tab.lookup k).isSome := by
  unfold opTIn at e
  split at e
  · rename_i k n
    by_cases h : n = x
    · rw [if_pos h] at e
      cases e
      exact ⟨k, rfl, by rw [h], rfl⟩
    · rw [if_neg h] at e
      cases e
  · cases e
theorem c_inT {x : Str} {tab : List (Str × D)} (hT : TabX X x tab) : CmpOk X (fun y v H Q => ∃ (z : Str) (d : Addr) (es : Array DictEntry) (n : Nat) (r : Option Value), KDict X.K X.w d es n ∧ y = .str z ∧ v = .ref d ∧ PySem.W.nsIn X.K d z = some r ∧ Q (.bl r.isSome) H) (opTIn x tab) := fun W T σ H y z b v w Q i r hx hy e q => by
  obtain ⟨k, rfl, rfl, rfl⟩ := opTIn_inv e
  obtain ⟨a, es, n, hm, D, h1, _⟩ := hT.at_
  obtain ⟨rr, h2, h3⟩ := h1 k
  exact ⟨k, a, es, n, rr, D, rStr hx, gl_at i hy hm, h2, by rw [← h3]; exact q⟩
theorem c_notInT {x : Str} {tab : List (Str × D)} (hT : TabX X x tab) : CmpOk X (fun y v H Q => ∃ (z : Str) (d : Addr) (es : Array DictEntry) (n : Nat) (r : Option Value), KDict X.K X.w d es n ∧ y = .str z ∧ v = .ref d ∧ PySem.W.nsIn X.K d z = some r ∧ Q (.bl (!r.isSome)) H) (opTNotIn x tab) := fun W T σ H y z b v w Q i r hx hy e q => by
  unfold opTNotIn at e
  cases zz : opTIn x tab T y z with
  | none => rw [zz] at e; cases e
  | some c =>
    rw [zz] at e
    cases e
    obtain ⟨k, rfl, rfl, rfl⟩ := opTIn_inv zz
    obtain ⟨a, es, n, hm, D, h1, _⟩ := hT.at_
    obtain ⟨rr, h2, h3⟩ := h1 k
    exact ⟨k, a, es, n, rr, D, rStr hx, gl_at i hy hm, h2, by rw [← h3]; exact q⟩
theorem ev_tix {x : Str} {tab : List (Str × D)} (hT : TabX X x tab) (ha : EV X E a ma) (hb : EV X E b mb) (hs : PlainIx b := by exact fun _ _ => rfl) : EV X E (.Subscript a b pos) (op2 (opTIx x tab) ma mb) := (pe_ix ix_kdict ha hb hs).imp fun σ H Q h => op2_run h fun W T σ H z y d v w Q i r hx hy e k => by
  unfold opTIx at e
  split at e
  · rename_i kk n
    by_cases h : n = x
    · rw [if_pos h] at e
      subst h
      obtain ⟨a, es, n2, hm, D, _, h1⟩ := hT.at_
      obtain ⟨u, v0, h2, h3, h4⟩ := h1 kk d e
      exact ⟨a, kk, v0, gl_at i hx hm, rStr hy, ⟨es, n2, u, D.at_, D.lit, h2, h3⟩, k W H (Wd.le.refl _) r v0 (.of (h4 W i))⟩
    · rw [if_neg h] at e
      cases e
  · cases e

/-! ### a dict display -/
def aAll : List (M D) → M (List D)
  | [] => aNil
  | m :: ms => aCons m (aAll ms)
def trsOf (X : Cx) (E : XK) : List Str → List (M D) → List (TE × TE)
  | k :: ks, m :: ms => (tC (.str k), tm X E m) :: trsOf X E ks ms
  | _, _ => []
theorem ta_aAll {σ : L2.St} {Q : List (V × V) → Hp → Prop} : ∀ {ks : List Str} {ms : List (M D)} {H : Hp} {W : Wd} {T : MT}, ks.length = ms.length → In X W → Rel W T σ H →
    post E W σ (aAll ms T) (fun ds W' H' => ∀ vs, RepTs W' σ ds vs → Q ((ks.map V.str).zip vs) H') → ∀ R : List (V × V) → Hp → Prop, (∀ ps H', Q ps H' → R ps H') → tPairs (trsOf X E ks ms) σ H R
  | [], [], H, W, T, _, i, r, p, R, hR => by
    have p : post E W σ (.ok [] T) (fun ds W' H' => ∀ vs, RepTs W' σ ds vs → Q (([] : List V).zip vs) H') := p
    exact hR _ _ (post_true r p [] .nil)
  | k :: ks, m :: ms, H, W, T, hl, i, r, p, R, hR => by
    have p : post E W σ (bnd m (fun x => bnd (aAll ms) fun xs => ret (x :: xs)) T) (fun ds W' H' => ∀ vs, RepTs W' σ ds vs → Q (((k :: ks).map V.str).zip vs) H') := p
    show tC (.str k) σ H fun x H1 => tm X E m σ H1 fun y H2 => tPairs (trsOf X E ks ms) σ H2 fun ps H3 => R ((x, y) :: ps) H3
    refine (tm_bnd i r p).imp fun v H1 q => ?_
    obtain ⟨d, W1, T1, l1, i1, r1, v1, p1⟩ := q
    refine ta_aAll (Q := fun ps H' => Q ((V.str k, v) :: ps) H') (Nat.succ.inj hl) i1 r1 ?_ _ fun ps H' q => hR _ _ q
    refine (post_bnd p1).imp fun ds W' H' l q vs hvs => ?_
    obtain ⟨T2, r2, p2⟩ := q
    exact post_true r2 p2 (v :: vs) (.cons (v1.mono l) hvs)
structure DV (X : Cx) (E : XK) (pos : Pos) (keys : List (Option Expr)) (values : List Expr) (ks : List Str) (ms : List (M D)) : Prop where
  pps : PPs X pos keys values (trsOf X E ks ms)
  len : ks.length = ms.length
  lenk : keys.length = ks.length
  lenv : values.length = ks.length
  all : keys.all (·.isSome) = true
theorem dv_nil : DV X E pos [] [] [] [] := ⟨pps_nil, rfl, rfl, rfl, rfl⟩
theorem dv_cons {k : Str} {j : Nat} {p : Pos} {keys : List (Option Expr)} {values : List Expr} {ks : List Str} {ms : List (M D)} (ha : EV X E a ma) (h : DV X E pos keys values ks ms) :
    DV X E pos (some (.Constant (.str k) j p) :: keys) (a :: values) (k :: ks) (ma :: ms) :=
  ⟨pps_cons pe_str ha h.pps, congrArg (· + 1) h.len, congrArg (· + 1) h.lenk, congrArg (· + 1) h.lenv, h.all⟩
theorem mergeK_new : ∀ {kvs acc : List (Key × V)}, ((acc ++ kvs).map (·.1)).Nodup → mergeK acc kvs = acc ++ kvs
  | [], acc, _ => (List.append_nil acc).symm
  | kv :: kvs, acc, h => by
    have hn : (acc.any fun q => decide (q.1 = kv.1)) = false := by
      rw [List.any_eq_false]
      intro q hq
      rw [decide_eq_true_eq]
      intro z
      rw [List.map_append, List.nodup_append] at h
      exact h.2.2 q.1 (List.mem_map_of_mem hq) kv.1 (List.mem_map_of_mem (List.mem_cons_self ..)) z
    have hp : putK acc kv.1 kv.2 = acc ++ [kv] := by
      unfold putK
      rw [hn]
      rfl
    show mergeK (putK acc kv.1 kv.2) kvs = _
    rw [hp, mergeK_new (by rw [List.append_assoc]; exact h), List.append_assoc]
    rfl
theorem zip_keys : ∀ (ks : List Str) (vs : List V), (ks.map V.str).zip vs = (((ks.map (Sum.inr : Str → Ky)).zip vs)).map fun kv => (kV kv.1, kv.2)
  | [], vs => rfl
  | k :: ks, [] => rfl
  | k :: ks, v :: vs => by
    simp only [List.map_cons, List.zip_cons_cons]
    rw [zip_keys ks vs]
    rfl
theorem zip_mem {k : Str} : ∀ {ks : List Str} {vs : List V}, (Sum.inr k : Ky) ∈ ((ks.map (Sum.inr : Str → Ky)).zip vs).map (·.1) → k ∈ ks
  | [], vs, h => by cases h
  | x :: ks, [], h => by cases h
  | x :: ks, v :: vs, h => by
    simp only [List.map_cons, List.zip_cons_cons, List.mem_cons] at h
    rcases h with h | h
    · cases h
      exact List.mem_cons_self ..
    · exact List.mem_cons_of_mem _ (zip_mem h)
theorem zip_nodup : ∀ {ks : List Str} (vs : List V), ks.Nodup → (((ks.map (Sum.inr : Str → Ky)).zip vs).map (·.1)).Nodup
  | [], vs, _ => List.nodup_nil
  | x :: ks, [], _ => List.nodup_nil
  | x :: ks, v :: vs, h => by
    rw [List.nodup_cons] at h
    exact List.nodup_cons.mpr ⟨fun z => h.1 (zip_mem z), zip_nodup vs h.2⟩
theorem upd_upd' {H : Hp} {p : Addr} {o u : HO} : upd (upd H p o) p u = upd H p u := by
  funext b
  by_cases hb : b = p
  · rw [hb, upd_same, upd_same]
  · rw [upd_ne hb, upd_ne hb, upd_ne hb]
theorem upd_hdel' {H : Hp} {p : Addr} {u : HO} : upd (hdel H p) p u = upd H p u := by
  funext b
  by_cases hb : b = p
  · rw [hb, upd_same, upd_same]
  · rw [upd_ne hb, upd_ne hb, hdel_ne hb]
def mDict (ks : List Str) (ms : List (M D)) : M D := mDic (ks.map Sum.inr) (aAll ms)
theorem ev_dict {keys : List (Option Expr)} {values : List Expr} {ks : List Str} {ms : List (M D)} (h : DV X E pos keys values ks ms) (hn : ks.Nodup) (h0 : keys ≠ []) (h15 : ks.length ≤ 15) : EV X E (.Dict keys values pos) (mDict ks ms) :=
  (pe_disp h.pps h.all (h.lenk.trans h.lenv.symm) h0 (by rw [h.lenk]; exact h15)).imp fun σ H Q q => by
    obtain ⟨W, T, i, r, p⟩ := q
    intro a ha
    have hF := r.s.fF ha
    have hG := r.s.fG ha
    have hs : a ∉ W.as := fun z => r.s.th a z ha
    have ho : ¬ OwnAt T σ a := fun z => (r.ownAt z).2.2.2 ha
    have r1 := (r.ext (same_new (o := .dK []) ha)).more (o := .dK []) upd_same hF hs ho
    have hlf : Same W.G (upd W.G a (.dK [])) := same_new hG
    have p : post E W σ (bnd (aAll ms) (fun ds => lift fun _ => if noTmp ds && decide ((ks.map (Sum.inr : Str → Ky)).length = ds.length) then some (.dic (ks.map Sum.inr) ds) else none) T) fun d W' H' => ∀ v, RepT W' σ d v → Q v H' := p
    refine ta_aAll (W := { W with G := upd W.G a (.dK []) }) (T := T) (Q := fun ps H2 => H2 a = some (.dK []) ∧ ∃ kvs : List (Key × V), ps = kvs.map (fun kv => (kV kv.1, kv.2)) ∧ kvs.length ≤ 15 ∧ Q (.ref a) (upd H2 a (.dK (mergeK [] kvs)))) h.len ⟨i.K, i.mg⟩ r1 ?_ _ fun ps H' q => q
    have down : ∀ {W' : Wd}, ({ W with G := upd W.G a (.dK []) } : Wd).le W' → W.le { W' with G := W.G } := fun l => ⟨⟨l.K, l.mg, l.as, l.F⟩, rfl⟩
    unfold bnd at p
    cases hm : aAll ms T with
    | stuck =>
      rw [hm] at p
      exact p
    | exc c fs T1 =>
      rw [hm] at p
      intro W' H' C dx vs l r' m hd hv
      exact p { W' with G := W.G } H' C dx vs (down l) (r'.less (by rw [l.G]; exact hlf)) m hd (hv.mono' gd_lf)
    | ok ds T1 =>
      rw [hm] at p
      intro W' H' l r' vs hvs
      by_cases hc : (noTmp ds && decide ((ks.map (Sum.inr : Str → Ky)).length = ds.length)) = true
      · have e1 : andThen (Out.ok ds T1) (fun ds => lift fun _ => if noTmp ds && decide ((ks.map (Sum.inr : Str → Ky)).length = ds.length) then some (D.dic (ks.map Sum.inr) ds) else none) = .ok (.dic (ks.map Sum.inr) ds) T1 := by
          simp only [andThen_ok, lift, if_pos hc]
        rw [e1] at p
        rw [Bool.and_eq_true] at hc
        have hlen := of_decide_eq_true hc.2
        have hrep := hvs.reps hc.1
        have hGa : W'.G a = some (.dK []) := by rw [l.G]; exact upd_same
        have hHa : H' a = some (.dK []) := r'.s.G a _ hGa
        have hGn : W'.G a ≠ none := by rw [hGa]; exact fun z => by cases z
        have hF' := r'.s.FG a hGn
        have ho' := r'.notOwn hGn
        have hs' : a ∉ W'.as := fun z => hGn (r'.s.asG a z)
        have r2 : Rel { W' with G := W.G } T1 σ H' := r'.less (by rw [l.G]; exact hlf)
        have r3 := r2.del (p := a) hF' hG hs' ho'
        have r4 := r3.put (o := .dK ((ks.map Sum.inr).zip vs)) hdel_same
        have l4 := r3.putLe (o := .dK ((ks.map Sum.inr).zip vs)) (p := a) hdel_same
        have lf4 : W'.lf (({ W' with G := W.G } : Wd).put a (.dK ((ks.map Sum.inr).zip vs))) := ⟨rfl, rfl, ⟨[], (List.append_nil _).symm⟩, same_new hF'⟩
        rw [upd_hdel'] at r4
        refine ⟨hHa, (ks.map Sum.inr).zip vs, zip_keys ks vs, ?_, ?_⟩
        · rw [List.length_zip, List.length_map]
          exact Nat.le_trans (Nat.min_le_left _ _) h15
        · have hk : mergeK [] ((ks.map Sum.inr).zip vs) = (ks.map Sum.inr).zip vs := by
            refine (mergeK_new ?_).trans (List.nil_append _)
            rw [List.nil_append]
            exact zip_nodup vs hn
          rw [hk]
          refine p _ _ ((down l).trans l4) r4 _ ?_
          show Rep _ (.dic (ks.map Sum.inr) ds) (.ref a)
          simp only [Rep]
          exact ⟨a, vs, rfl, hlen, put_F, hrep.mono' lf4⟩
      · have e1 : andThen (Out.ok ds T1) (fun ds => lift fun _ => if noTmp ds && decide ((ks.map (Sum.inr : Str → Ky)).length = ds.length) then some (D.dic (ks.map Sum.inr) ds) else none) = .stuck := by
          simp only [andThen_ok, lift, if_neg hc]
        rw [e1] at p
        exact p.elim
/-- {} -/
theorem ev_dic0 : EV X E (.Dict [] [] pos) (mC (.dic [] [])) := pe_dnewK.imp fun σ H Q q => by
  obtain ⟨W, T, i, r, p⟩ := q
  intro a ha
  refine post_true (r.put (o := .dK []) ha) (p.le (r.putLe ha)) (.ref a) ?_
  show Rep _ (.dic [] []) (.ref a)
  simp only [Rep]
  exact ⟨a, [], rfl, rfl, put_F, Reps.nil⟩

/-! ### a call of a def that a slot holds -/
theorem ev_callV {CX : CXT} {k n : Nat} {x : Str} {tab : List (Str × MF)} (i : Nat) (hr : RoomG k X.A) (hx : Passes CX X E) (hN : X.N[i]? = some x) (hv : Vis X.env.scope x) (ha : AV X E (e :: es) mr)
    (hT : ∀ z mf, tab.lookup z = some mf → ∃ f fd ps, ps.length = n ∧ FnG X.prog X.w X.K X.mg X.base CX k f fd ps (spF X.K X.mg ps.length mf) ∧ Binds X.K fd ps [] ∧ X.mg z = some (.ref f) ∧ PySem.W.keepIn X.K (.ref f) = true)
    (hd : (x == ("__debug__" : Str)) = false := by decide) (hcd : (x == ("__classdict__" : Str)) = false := by decide)
    (he : starEach (e :: es) X.env = (false, eval e X.env) :: starEach es X.env := by rfl) (hpl : (backTo pos (starEach es X.env)).any (·.1) = false := by rfl) {p : Pos} :
    EV X E (.Call (.Name x p) (e :: es) [] pos) (mCallV i n tab mr) := ⟨fun pins s σ H Q I h => by
  obtain ⟨W, T, iw, r, q⟩ := h
  unfold mCallV at q
  split at q
  · rename_i z hz
    split at q
    · rename_i mf hm
      obtain ⟨f, fd, ps, hn, F, hb, hmg, hk⟩ := hT z mf hm
      obtain ⟨v, hσ, hv0⟩ := r.e.val i _ hz
      have ev := gl_at (σ := σ) iw (.of hv0) hmg
      subst ev
      refine wpAny_Call_Name_kw (thn ((pe_var (pos := p) (i := i) hN hv hd hcd).run pins s σ H (fun v H1 => v = .ref f ∧ H1 = H) I ⟨.ref f, hσ, rfl, rfl⟩) fun u s1 ⟨v, H1, I1, r1, ev, eH⟩ => ?_)
      subst ev
      rw [eH] at I1
      cases r1
      refine PySem.W.callWith_K (h₀ := X.base) I.ok.mod.kin hk (thn (ha.run pos pins s1 σ H (fun vs H1 => spF X.K X.mg ps.length mf (vs ++ []) H1 Q E) I1 (ta_bnd iw r q |>.imp fun vs H1 q => ?_)) fun us s2 ⟨vs, H2, I2, r2, q⟩ => ⟨I2.kIn, run_g F hr hb .nil hx I2 r2 q⟩) he hpl
      obtain ⟨ds, W1, T1, l1, i1, r1, v1, p1⟩ := q
      unfold callF at p1
      split at p1
      · rename_i hn'
        rw [Bool.and_eq_true] at hn'
        have hrep : Reps (W1.guard T1 σ H1) (ds ++ []) (vs ++ []) := ((v1.reps hn'.1).append Reps.nil).mono' gd_lf
        exact ⟨W1.guard T1 σ H1, ds ++ [], T1.st, i1.K, i1.mg, r1.guard, hrep, by rw [hn]; exact of_decide_eq_true hn'.2, call_post i1 r1 p1⟩
      · exact p1.elim
    · exact q.elim
  · exact q.elim⟩
end
end FL

set_option Elab.async false
set_option linter.all false
set_option maxRecDepth 100000
set_option maxHeartbeats 4000000
set_option exponentiation.threshold 20000
/-! FL13: a comprehension over the frame's own list; x += 1. -/
namespace FL
open PySem PySem.Spec PyProof.Rows L2
section
variable {X : Cx} {E : XK} {elt tg iter : Expr} {ifs : List Expr} {scope : Scope} {own : List (Str × Nat)} {me : M D} {src : M (List D)} {mt : M Bool} {g : Tg} {ws : List Nat} {pos : Pos}
/-- a comprehension from where its source has come -/
theorem comp_core {vs : List Nat} {σ : L2.St} {H1 : Hp} {W1 : Wd} {T1 : MT} {J : It} {xs : List D} {Qd : V → Hp → Prop} {R : List D → Wd → Hp → Prop} (hw : ∀ i ∈ ws, i ∈ vs) (i1 : In X W1) (r1 : Rel W1 T1 σ H1)
    (wk : Walk J xs.length (fun H => Same W1.F H ∧ Same W1.G H) (YD W1 xs)) (X' : Cx) (hX : ∀ W, In X W → In X' W)
    (p1 : post E W1 σ (match compL vs g mt me xs [] T1 with
      | .ok acc T' => .ok acc { T' with env := restL T1.env T'.env vs }
      | _ => .stuck) R) (hR : ∀ ds W' H', W1.le W' → R ds W' H' → ∀ p us, H' p = none → Reps W' ds us → Qd (.ref p) (upd H' p (.lst us))) {Da : Addr} (hD : H1 Da = none) :
    ∃ W : Nat → Nat → Hp → Prop, (∃ m, W 0 m (upd H1 Da (.lst []))) ∧ ∀ i m H, W i m H →
      (J.stop i H ∧ Qd (.ref Da) H) ∨ (J.go i H ∧ ∃ Nx : Hp → Prop, (∀ H', Nx H' → ∃ m', m' < m ∧ W (i + 1) m' H') ∧ ∀ x H', J.yld i H x H' → gt X' E0 ws g x (wipe σ vs) H' fun σ2 H2 => wipe σ2 vs = wipe σ vs ∧ tt X' E0 mt σ2 H2 fun b H3 =>
        if b = true then tm X' E0 me σ2 H3 fun y H4 => ∃ acc, H4 Da = some (.lst acc) ∧ acc.length < sizeLine ∧ Nx (upd H4 Da (.lst (acc ++ [y]))) else Nx H3) := by
  -- the invariant
  refine lc_it wk (fun n H' => ∃ W' T' acc us, W1.lf W' ∧ W'.G = upd W1.G Da (.lst us) ∧ H' Da = some (.lst us) ∧ Reps W' acc us ∧ Rel W' (wipeT vs T') (wipe σ vs) H' ∧
    ∃ acc' T'', compL vs g mt me (xs.drop n) acc T' = .ok acc' T'' ∧ post E W1 σ (.ok acc' { T'' with env := restL T1.env T''.env vs }) R) ?_ ?_ ?_ ?_
  · have r2 := (r1.wipe vs).ext (same_new (o := .lst []) hD)
    have hF := r1.s.fF hD
    have hs : Da ∉ W1.as := fun z => r1.s.th Da z hD
    have ho : ¬ OwnAt (wipeT vs T1) (wipe σ vs) Da := fun q => ((r1.wipe vs).ownAt q).2.2.2 hD
    have r3 := r2.more (p := Da) (o := .lst []) upd_same hF hs ho
    refine ⟨_, T1, [], [], gd_lf, rfl, upd_same, Reps.nil, r3, ?_⟩
    rw [List.drop_zero]
    cases hc : compL vs g mt me xs [] T1 with
    | ok acc' T'' =>
      rw [hc] at p1
      exact ⟨acc', T'', rfl, p1⟩
    | exc c fs T'' =>
      rw [hc] at p1
      exact p1.elim
    | stuck =>
      rw [hc] at p1
      exact p1.elim
  · rintro n H' _ ⟨W', T', acc, us, lf, hG, _, _, r', _⟩
    refine ⟨lf.F.trans r'.s.F, fun b o hb => r'.s.G b o ?_⟩
    rw [hG]
    exact same_new (r1.s.fG hD) b o hb
  · rintro n x H' H2 hn ⟨W', T', acc, us, lf, hG, hDa, ha, r', acc', T'', hc, pf⟩ y
    obtain ⟨W2, d, l2, r2, hd, hr⟩ := r'.came lf y
    have ed : xs.drop n = d :: xs.drop (n + 1) := by
      obtain ⟨q, e⟩ := List.getElem?_eq_some_iff.mp hd
      rw [← e]
      exact List.drop_eq_getElem_cons q
    rw [ed] at hc
    unfold compL at hc
    have iX : ∀ {W3 : Wd}, W1.lf W3 → In X' W3 := fun {W3} lf3 => hX _ ⟨lf3.K.trans i1.K, lf3.mg.trans i1.mg⟩
    have lf2 := lf.trans l2.tolf
    cases hg : g d (wipeT vs T') with
    | none => rw [hg] at hc; cases hc
    | some T3 =>
      simp only [hg] at hc
      refine ⟨d, W2, wipeT vs T', iX lf2, r2, .of hr, T3, hg, fun W3 σ3 H3 l3 r3 so => ?_⟩
      have ew : wipe σ3 vs = wipe σ vs := (wipe_off so hw).trans (wipe_wipe σ vs)
      have lf3 := lf2.trans l3.tolf
      refine ⟨ew, W3, T3, iX lf3, r3, ?_⟩
      cases hm : mt T3 with
      | exc c fs T4 => rw [hm] at hc; cases hc
      | stuck => rw [hm] at hc; cases hc
      | ok b T4 =>
        rw [hm] at hc
        intro W4 H4 l4 r4
        have lf4 := lf3.trans l4.tolf
        have hG4 : W4.G = upd W1.G Da (.lst us) := l4.G.trans (l3.G.trans (l2.G.trans hG))
        have ha4 := ((ha.mono l2).mono l3).mono l4
        cases b with
        | false =>
          show ∃ W' T' acc us, _
          have r5 := r4.wipe vs
          rw [ew] at r5
          exact ⟨W4, T4, acc, us, lf4, hG4, r4.s.G _ _ (by rw [hG4]; exact upd_same), ha4, r5, acc', T'', hc, pf⟩
        | true =>
          show tm X' E0 me σ3 H4 _
          refine ⟨W4, T4, iX lf4, r4, ?_⟩
          cases hm5 : me T4 with
          | exc c fs T5 => simp only [hm5] at hc; cases hc
          | stuck => simp only [hm5] at hc; cases hc
          | ok e T5 =>
            simp only [hm5] at hc
            intro W5 H5 l5 r5 v hv
            cases ht : isTmp e || decide (sz ≤ acc.length) with
            | true => rw [ht] at hc; cases hc
            | false =>
              rw [ht] at hc
              rw [Bool.or_eq_false_iff] at ht
              have hz := of_decide_eq_false ht.2
              have hG5 : W5.G = upd W1.G Da (.lst us) := l5.G.trans hG4
              have hne : W5.G Da ≠ none := by
                rw [hG5, upd_same]
                exact Option.some_ne_none _
              have ha5 := ha4.mono l5
              refine ⟨us, r5.s.G _ _ (by rw [hG5]; exact upd_same), ?_, ?_⟩
              · rw [ha5.length]
                exact Nat.lt_of_lt_of_le (Nat.lt_of_not_le hz) (sz_line (Nat.le_refl _))
              · have r6 := (r5.wipe vs).grown (p := Da) (o := .lst (us ++ [v])) hne
                rw [ew] at r6
                refine ⟨_, T5, acc ++ [e], us ++ [v], (lf4.trans l5.tolf).trans gd_lf, ?_, upd_same, (ha5.append (Reps.cons (hv.rep ht.1) Reps.nil)).mono' gd_lf, r6, acc', T'', hc, pf⟩
                show upd W5.G Da _ = _
                rw [hG5, upd_upd]
  · rintro H' ⟨W', T', acc, us, lf, hG, hDa, ha, r', acc', T'', hc, pf⟩
    rw [List.drop_length] at hc
    unfold compL at hc
    cases hc
    have hne : W'.G Da ≠ none := by
      rw [hG, upd_same]
      exact Option.some_ne_none _
    have hs1 : Same W1.G W'.G := by
      rw [hG]
      exact same_new (r1.s.fG hD)
    have hF' := r'.s.FG Da hne
    have has' : Da ∉ W'.as := fun z => hne (r'.s.asG Da z)
    have hno := r'.notOwn hne
    have r2 := (r'.less (G := W1.G) hs1).del (p := Da) hF' (r1.s.fG hD) has' hno
    have le : W1.le { W' with G := W1.G } := ⟨⟨lf.K, lf.mg, lf.as, lf.F⟩, rfl⟩
    have r3 := r1.rest le r2
    have q := hR _ _ _ le (pf _ _ le r3) Da us hdel_same (ha.mono' gd_lf)
    rw [upd_hdel hDa] at q
    exact q

/-- the own list of slot i away from its slot: looked after -/
theorem Rel.hide {W : Wd} {T : MT} {σ : L2.St} {H : Hp} (r : Rel W T σ H) {i : Nat} {xs : List D} {a : Addr} {us : List V} (h : T.env[i]? = some (.own (.lst xs))) (ha : σ[i]? = some (some (.ref a))) (ho : H a = some (.lst us)) :
    Rel { W with G := upd W.G a (.lst us) } { T with env := T.env.set i .emp } σ H := by
  obtain ⟨b, h1, h2, h3, h4, h5, h6⟩ := r.e.own i _ h
  rw [ha] at h1
  cases h1
  have r1 : Rel W { T with env := T.env.set i .emp } σ H := by
    refine ⟨r.s, ⟨by rw [List.length_set]; exact r.e.len, fun j d q => ?_, fun j mo q => ?_, fun j k mj mk b q1 q2 => ?_⟩⟩
    · by_cases hj : i = j
      · subst hj
        rw [List.getElem?_set_self'] at q
        cases z : T.env[i]? with
        | none => rw [z] at q; cases q
        | some _ => rw [z] at q; cases q
      · rw [List.getElem?_set_ne hj] at q
        exact r.e.val j d q
    · by_cases hj : i = j
      · subst hj
        rw [List.getElem?_set_self'] at q
        cases z : T.env[i]? with
        | none => rw [z] at q; cases q
        | some _ => rw [z] at q; cases q
      · rw [List.getElem?_set_ne hj] at q
        exact r.e.own j mo q
    · have ne : ∀ {j : Nat} {mj : MO}, (T.env.set i .emp)[j]? = some (.own mj) → T.env[j]? = some (.own mj) := fun {j mj} q => by
        by_cases hj : i = j
        · subst hj
          rw [List.getElem?_set_self'] at q
          cases z : T.env[i]? with
          | none => rw [z] at q; cases q
          | some _ => rw [z] at q; cases q
        · rw [List.getElem?_set_ne hj] at q
          exact q
      exact r.e.dist j k mj mk b (ne q1) (ne q2)
  refine r1.more ho h2 h4 ?_
  rintro ⟨j, mo, q1, q2⟩
  have q1 : (T.env.set i .emp)[j]? = some (.own mo) := q1
  by_cases hj : i = j
  · subst hj
    rw [List.getElem?_set_self'] at q1
    cases z : T.env[i]? with
    | none => rw [z] at q1; cases q1
    | some _ => rw [z] at q1; cases q1
  · rw [List.getElem?_set_ne hj] at q1
    exact hj (r.e.dist i j _ mo a h q1 ha q2)
/-- back in its slot -/
theorem Rel.show_ {W : Wd} {T : MT} {σ : L2.St} {H : Hp} (r : Rel W T σ H) {G : Hp} {i : Nat} {xs : List D} {a : Addr} {us : List V} (hG : W.G a = some (.lst us)) (hs : Same G W.G) (hn : G a = none) (ha : σ[i]? = some (some (.ref a))) (hr : Reps W xs us) :
    Rel { W with G := G } { T with env := T.env.set i (.own (.lst xs)) } σ H := by
  have hGn : W.G a ≠ none := by rw [hG]; exact fun z => by cases z
  have hF := r.s.FG a hGn
  have has : a ∉ W.as := fun z => hGn (r.s.asG a z)
  have hno := r.notOwn hGn
  have hH := r.s.G a _ hG
  have r1 := r.less hs
  refine ⟨r1.s, ⟨by rw [List.length_set]; exact r.e.len, fun j d q => ?_, fun j mo q => ?_, fun j k mj mk b q1 q2 g1 g2 => ?_⟩⟩
  · have q : (T.env.set i (.own (.lst xs)))[j]? = some (.val d) := q
    by_cases hj : i = j
    · subst hj
      rw [List.getElem?_set_self'] at q
      cases z : T.env[i]? with
      | none => rw [z] at q; cases q
      | some _ => rw [z] at q; cases q
    · rw [List.getElem?_set_ne hj] at q
      exact r1.e.val j d q
  · have q : (T.env.set i (.own (.lst xs)))[j]? = some (.own mo) := q
    by_cases hj : i = j
    · subst hj
      rw [List.getElem?_set_self'] at q
      cases z : T.env[i]? with
      | none => rw [z] at q; cases q
      | some _ =>
        rw [z] at q
        cases q
        exact ⟨a, ha, hF, hn, has, (by rw [hH]; exact fun z => nomatch z), us, hH, hr.mono' gd_lf⟩
    · rw [List.getElem?_set_ne hj] at q
      exact r1.e.own j mo q
  · have no : ∀ {j : Nat} {mj : MO}, i ≠ j → (T.env.set i (.own (.lst xs)))[j]? = some (.own mj) → T.env[j]? = some (.own mj) := fun {j mj} hj q => by
      rw [List.getElem?_set_ne hj] at q
      exact q
    by_cases hj : i = j
    · by_cases hk : i = k
      · rw [← hj, ← hk]
      · subst hj
        rw [ha] at g1
        cases g1
        exact absurd ⟨k, mk, no hk q2, g2⟩ hno
    · by_cases hk : i = k
      · subst hk
        rw [ha] at g2
        cases g2
        exact absurd ⟨j, mj, no hj q1, g1⟩ hno
      · exact r1.e.dist j k mj mk b (no hj q1) (no hk q2) g1 g2

/-- the walk of the own list of slot i -/
def tio (X : Cx) (i : Nat) : TI := fun σ H R => ∃ W T xs a us, In X W ∧ Rel W T σ H ∧ T.env[i]? = some (.own (.lst xs)) ∧ σ[i]? = some (some (.ref a)) ∧ H a = some (.lst us) ∧ Reps W xs us ∧ R (Itl X.K a) H
theorem pio (i : Nat) {x : Str} {p : Pos} (h : PE X (.Name x p) (tVar i)) : PI X tg (.Name x p) (tio X i) := (pi_list h).imp fun σ H R q => by
  obtain ⟨W, T, xs, a, us, iw, r, h1, h2, h3, h4, q⟩ := q
  exact ⟨.ref a, h2, a, rfl, ⟨us, SqL.of h3⟩, q⟩
/-- [elt for g in y if test], y the own list of slot i -/
def fCompO (i : Nat) (vs : List Nat) (g : Tg) (test : M Bool) (elt : M D) : M (List D) := fun T => match T.env[i]? with
  | some (.own (.lst xs)) => match compL vs g test elt xs [] { T with env := T.env.set i .emp } with
    | .ok acc T' => .ok acc { T' with env := (restL (T.env.set i .emp) T'.env vs).set i (.own (.lst xs)) }
    | _ => .stuck
  | _ => .stuck
theorem walk_own {K : PySem.W.Frag} {W : Wd} {a : Addr} {xs : List D} {us : List V} (h : W.G a = some (.lst us)) (r : Reps W xs us) : Walk (Itl K a) xs.length (fun H => Same W.F H ∧ Same W.G H) (YD W xs) := by
  have w := (walk_list (K := K) (a := a) (xs := us)).mono (G' := fun H => Same W.F H ∧ Same W.G H) (Y' := YD W xs) (fun H s => SqL.of (s.2 _ _ h)) fun i H x H' hi hs y => by
    obtain ⟨e1, e2⟩ := y
    rw [r.length] at hi
    obtain ⟨v, h1, h2⟩ := r.get (List.getElem?_eq_getElem hi)
    rw [e2] at h1
    cases h1
    exact .inl ⟨e1, _, List.getElem?_eq_getElem hi, h2⟩
  rw [r.length] at w
  exact w
theorem compO_run {σ : L2.St} {H : Hp} {Q : VK} {i : Nat} (hw : ∀ i ∈ ws, i ∈ own.map (·.2)) (hi : i ∉ own.map (·.2)) (h : tf X E (fCompO i (own.map (·.2)) g mt me) σ H Q) :
    tLc (tio X i) (gt X E0 ws g) (tt X E0 mt) (tm X E0 me) (own.map (·.2)) σ H Q := by
  obtain ⟨W, T, iw, r, p⟩ := h
  unfold fCompO at p
  split at p
  · rename_i xs hx
    obtain ⟨a, h1, h2, h3, h4, h5, us, h6, h7⟩ := r.e.own i _ hx
    refine ⟨W, T, xs, a, us, iw, r, hx, h1, h6, h7, fun Da hD => ?_⟩
    have r2 := r.hide hx h1 h6
    have hG2 : ({ W with G := upd W.G a (.lst us) } : Wd).G a = some (.lst us) := upd_same
    have hs2 : Same W.G (upd W.G a (.lst us)) := same_new h3
    have hr2 : Reps { W with G := upd W.G a (.lst us) } xs us := h7.mono' gd_lf
    have down : ∀ {W' : Wd}, ({ W with G := upd W.G a (.lst us) } : Wd).le W' → W.le { W' with G := W.G } := fun l => ⟨⟨l.K, l.mg, l.as, l.F⟩, rfl⟩
    refine comp_core (E := E) (Qd := Q) (R := fun ds W' H' => ∀ p vs, H' p = none → Reps W' ds vs → Q (.ref p) (upd H' p (.lst vs))) hw (show In X { W with G := upd W.G a (.lst us) } from ⟨iw.K, iw.mg⟩) r2 (walk_own hG2 hr2) X (fun _ i => i) ?_ (fun ds W' H' l q p us hp hr => q p us hp hr) hD
    cases hm : compL (own.map (·.2)) g mt me xs [] { T with env := T.env.set i .emp } with
    | stuck => rw [hm] at p; exact p
    | exc c fs T1 => rw [hm] at p; exact p
    | ok acc T1 =>
      rw [hm] at p
      intro W' H' l r' q us' hq hr
      have r3 := r'.show_ (G := W.G) (i := i) (xs := xs) (a := a) (us := us) (by rw [l.G]; exact upd_same) (by rw [l.G]; exact hs2) h3 h1 (hr2.mono' l.tolf)
      exact p _ H' (down l) r3 q us' hq (hr.mono' gd_lf)
  · exact p.elim
theorem ef_compO (i : Nat) {x : Str} {p : Pos} (hc : X.calm = true) (hN : X.N.Nodup) (hx : PE X (.Name x p) (tVar i)) (ok : BlkOk X.N X.env.scope scope own)
    (hg : ∀ (s : Shared) (H : Hp) (C : Addr) (cl : List (Str × Addr)) (fp : List Addr), GV (X.blk s H scope (compEnvC scope cl C X.env) fp) E0 ws tg g) (ht : ∀ (s : Shared) (H : Hp) (C : Addr) (cl : List (Str × Addr)) (fp : List Addr), TV (X.blk s H scope (compEnvC scope cl C X.env) fp) E0 ifs mt)
    (he : ∀ (s : Shared) (H : Hp) (C : Addr) (cl : List (Str × Addr)) (fp : List Addr), EV (X.blk s H scope (compEnvC scope cl C X.env) fp) E0 elt me) (hw : (ws.all fun i => (own.map (·.2)).contains i) = true := by rfl) (hno : (own.map (·.2)).contains i = false := by rfl) (hs : ∀ z, foldedSetIterable (.Name x p) X.env z = pure z := by intro _; rfl) :
    EF X E (.ListComp elt [⟨tg, .Name x p, ifs, 0⟩] scope pos) (fCompO i (own.map (·.2)) g mt me) :=
  (pe_lc (g := gt X E0 ws g) (tt := tt X E0 mt) (te := tm X E0 me) hc hN (pio i hx) ok (fun s H C cl fp => (hg s H C cl fp).imp fun v σ H Q ⟨d, W, T, i, r⟩ => ⟨d, W, T, ⟨i.K, i.mg⟩, r⟩) (fun s H C cl fp => (ht s H C cl fp).imp fun σ H Q ⟨W, T, i, r⟩ => ⟨W, T, ⟨i.K, i.mg⟩, r⟩)
    (fun s H C cl fp => (he s H C cl fp).imp fun σ H Q ⟨W, T, i, r⟩ => ⟨W, T, ⟨i.K, i.mg⟩, r⟩) hs).imp fun σ H Q h => compO_run (fun i hi => by
      have := List.all_eq_true.mp hw i hi
      simpa using this) (fun z => by simp only [List.contains_eq_mem, decide_eq_false_iff_not] at hno; exact hno z) h
theorem sv_ownLcO (j i : Nat) {y x : Str} {py p spos : Pos} (hc : X.calm = true) (hN : X.N.Nodup) (hy : X.N[i]? = some y) (hyl : X.env.scope.names.lookup y = some .local)
    (hsw : swapsWith (.ListComp elt [⟨tg, .Name x p, ifs, 0⟩] scope pos) (some (.Name y py)) spos.line X.env = pure true) (hx : PE X (.Name x p) (tVar j)) (ok : BlkOk X.N X.env.scope scope own)
    (hg : ∀ (s : Shared) (H : Hp) (C : Addr) (cl : List (Str × Addr)) (fp : List Addr), GV (X.blk s H scope (compEnvC scope cl C X.env) fp) E0 ws tg g) (ht : ∀ (s : Shared) (H : Hp) (C : Addr) (cl : List (Str × Addr)) (fp : List Addr), TV (X.blk s H scope (compEnvC scope cl C X.env) fp) E0 ifs mt)
    (he : ∀ (s : Shared) (H : Hp) (C : Addr) (cl : List (Str × Addr)) (fp : List Addr), EV (X.blk s H scope (compEnvC scope cl C X.env) fp) E0 elt me) (hw : (ws.all fun i => (own.map (·.2)).contains i) = true := by rfl) (hno : (own.map (·.2)).contains j = false := by rfl) (hs : ∀ z, foldedSetIterable (.Name x p) X.env z = pure z := by intro _; rfl) :
    SV X E (.Assign [.Name y py] (.ListComp elt [⟨tg, .Name x p, ifs, 0⟩] scope pos) spos) (sOwn i (fCompO j (own.map (·.2)) g mt me)) ∧ SV X E (.Assign [.Name y py] (.ListComp elt [⟨tg, .Name x p, ifs, 0⟩] scope pos) spos) (sSet i (vL (fCompO j (own.map (·.2)) g mt me))) := by
  have base := ps_setLc (g := gt X E0 ws g) (tt := tt X E0 mt) (te := tm X E0 me) hc hN hy hyl hsw (pio j hx) ok (fun s H C cl fp => (hg s H C cl fp).imp fun v σ H Q ⟨d, W, T, i, r⟩ => ⟨d, W, T, ⟨i.K, i.mg⟩, r⟩) (fun s H C cl fp => (ht s H C cl fp).imp fun σ H Q ⟨W, T, i, r⟩ => ⟨W, T, ⟨i.K, i.mg⟩, r⟩)
    (fun s H C cl fp => (he s H C cl fp).imp fun σ H Q ⟨W, T, i, r⟩ => ⟨W, T, ⟨i.K, i.mg⟩, r⟩) hs
  have run : ∀ (σ : L2.St) (H : Hp) (Q : VK), tf X E (fCompO j (own.map (·.2)) g mt me) σ H Q → tLc (tio X j) (gt X E0 ws g) (tt X E0 mt) (tm X E0 me) (own.map (·.2)) σ H Q := fun σ H Q h => compO_run (fun i hi => by
      have := List.all_eq_true.mp hw i hi
      simpa using this) (fun z => by simp only [List.contains_eq_mem, decide_eq_false_iff_not] at hno; exact hno z) h
  constructor
  · refine base.imp fun D σ H h => run σ H _ ?_
    obtain ⟨W, T, iw, r, p⟩ := h
    exact ⟨W, T, iw, r, (spost_of p).imp fun ds W1 H1 l ⟨T1, r1, p1⟩ p vs hp hr => snx (r1.newOwn hp (mo := .lst ds) ⟨vs, upd_same, hr⟩) p1⟩
  · refine base.imp fun D σ H h => run σ H _ ?_
    obtain ⟨W, T, iw, r, p⟩ := h
    refine ⟨W, T, iw, r, ?_⟩
    have p2 : post E W σ (vL (fCompO j (own.map (·.2)) g mt me) T) _ := spost_of p
    refine (post_bnd p2).imp fun ds W1 H1 l ⟨T1, r1, p1⟩ p vs hp hr => ?_
    obtain ⟨T2, r2, p3⟩ := p1 _ _ (r1.putLe hp) (r1.put hp)
    have rp := mkLst (σ := σ) (put_F (W := W1) (p := p) (o := .lst vs)) (hr.mono (r1.putLe hp))
    exact snx (r2.setV (show Rep _ (.lst ds) _ from rp)) p3
end
end FL

set_option Elab.async false
set_option linter.all false
set_option maxRecDepth 100000
set_option maxHeartbeats 4000000
set_option exponentiation.threshold 20000
/-! FL14: words of types; x, y = ([], []); the law's own end. -/
namespace FL
open PySem PySem.Spec PyProof.Rows L2
section
variable {X : Cx} {E : XK} {pos : Pos}
theorem pe_tyN {tn : Str} {n : String} {q : Pos} (hg : Gl X tn) (hm : X.mg tn = none) (hv : bootBuiltins tn = some (.type n)) (hn : tn ≠ "__name__" := by decide) (hd : (tn == ("__debug__" : Str)) = false := by decide) : PE X (.Name tn q) (tC (.ty n)) :=
  ⟨fun pins s σ H Q I h => ld_blt I hg hm hv ⟨.ty n, H, I, rfl, h⟩ hn hd⟩
theorem pass_ {X : Cx} {E : XK} : Passes CX0 X E := fun _ _ _ _ _ _ _ h => h.elim
theorem RoomG.u64 {k : Nat} {A : Around} (r : RoomG k A) : A.units + 64 < cLine := by have := r.room.un; omega
theorem RoomG.u1 {k : Nat} {A : Around} (r : RoomG k A) : A.units + 1 < cLine := by have := r.room.un; omega
/-- x, y = ([], []), both to be grown -/
def sPar0 (i j : Nat) : MS := fun T => .nx (setO (setO T i (.lst [])) j (.lst []))
theorem sv_par0 (i j : Nat) {x y : Str} {px py pt p1 p2 : Pos} {kt k2 pt2} (hc : X.calm = true) (hN : X.N.Nodup) (hi : X.N[i]? = some x) (hj : X.N[j]? = some y) (hij : i ≠ j)
    (hx : X.env.scope.names.lookup x = some .local) (hy : X.env.scope.names.lookup y = some .local)
    (hs1 : starEach [.List [] p1, .List [] p2] X.env = (false, eval (.List [] p1) X.env) :: starEach [.List [] p2] X.env := by rfl)
    (hs2 : starEach [.List [] p2] X.env = (false, eval (.List [] p2) X.env) :: starEach [] X.env := by rfl)
    (hw : swappedStores [.Tuple [.Name x px, .Name y py] kt pt] (.Tuple [.List [] p1, .List [] p2] k2 pt2) X.env = pure (some [x, y]) := by rfl)
    (hs : swapsWithSole [.Tuple [.Name x px, .Name y py] kt pt] (.Tuple [.List [] p1, .List [] p2] k2 pt2) pos.line X.env = pure false := by rfl) :
    SV X E (.Assign [.Tuple [.Name x px, .Name y py] kt pt] (.Tuple [.List [] p1, .List [] p2] k2 pt2) pos) (sPar0 i j) :=
  (ps_par hc hN hi hj hij hx hy (pa_cons (pe_lst pa_nil) (pa_cons (pe_lst pa_nil) pa_nil hs2) hs1) hw hs).imp fun D σ H h => by
    obtain ⟨W, T, iw, r, p⟩ := h
    refine ⟨Nat.zero_le _, fun a ha => ⟨Nat.zero_le _, fun b hb => ⟨.ref a, .ref b, rfl, ?_⟩⟩⟩
    have r1 := r.newOwn (i := i) (mo := .lst []) ha ⟨[], upd_same, Reps.nil⟩
    have r2 := r1.newOwn (i := j) (mo := .lst []) hb ⟨[], upd_same, Reps.nil⟩
    exact snx r2 p
end

/-! ### the two readings of y = [..] apart -/
section
variable {X : Cx} {E : XK} {elt tg iter : Expr} {ifs : List Expr} {scope : Scope} {own : List (Str × Nat)} {me : M D} {src : M (List D)} {mt : M Bool} {g : Tg} {ws : List Nat} {pos : Pos}
theorem sv_ownLc1 (i : Nat) {y : Str} {py spos : Pos} (hc : X.calm = true) (hN : X.N.Nodup) (hy : X.N[i]? = some y) (hyl : X.env.scope.names.lookup y = some .local)
    (hsw : swapsWith (.ListComp elt [⟨tg, iter, ifs, 0⟩] scope pos) (some (.Name y py)) spos.line X.env = pure true) (hi : IV X E tg iter src) (ok : BlkOk X.N X.env.scope scope own)
    (hg : ∀ (s : Shared) (H : Hp) (C : Addr) (cl : List (Str × Addr)) (fp : List Addr), GV (X.blk s H scope (compEnvC scope cl C X.env) fp) E0 ws tg g) (ht : ∀ (s : Shared) (H : Hp) (C : Addr) (cl : List (Str × Addr)) (fp : List Addr), TV (X.blk s H scope (compEnvC scope cl C X.env) fp) E0 ifs mt) (he : ∀ (s : Shared) (H : Hp) (C : Addr) (cl : List (Str × Addr)) (fp : List Addr), EV (X.blk s H scope (compEnvC scope cl C X.env) fp) E0 elt me) (hw : (ws.all fun i => (own.map (·.2)).contains i) = true := by rfl) (hs : ∀ x, foldedSetIterable iter X.env x = pure x := by intro _; rfl) :
    SV X E (.Assign [.Name y py] (.ListComp elt [⟨tg, iter, ifs, 0⟩] scope pos) spos) (sOwn i (fComp (own.map (·.2)) src g mt me)) := (sv_ownLc i hc hN hy hyl hsw hi ok hg ht he hw hs).1
theorem sv_ownLcO1 (j i : Nat) {y x : Str} {py p spos : Pos} (hc : X.calm = true) (hN : X.N.Nodup) (hy : X.N[i]? = some y) (hyl : X.env.scope.names.lookup y = some .local)
    (hsw : swapsWith (.ListComp elt [⟨tg, .Name x p, ifs, 0⟩] scope pos) (some (.Name y py)) spos.line X.env = pure true) (hx : PE X (.Name x p) (tVar j)) (ok : BlkOk X.N X.env.scope scope own)
    (hg : ∀ (s : Shared) (H : Hp) (C : Addr) (cl : List (Str × Addr)) (fp : List Addr), GV (X.blk s H scope (compEnvC scope cl C X.env) fp) E0 ws tg g) (ht : ∀ (s : Shared) (H : Hp) (C : Addr) (cl : List (Str × Addr)) (fp : List Addr), TV (X.blk s H scope (compEnvC scope cl C X.env) fp) E0 ifs mt) (he : ∀ (s : Shared) (H : Hp) (C : Addr) (cl : List (Str × Addr)) (fp : List Addr), EV (X.blk s H scope (compEnvC scope cl C X.env) fp) E0 elt me) (hw : (ws.all fun i => (own.map (·.2)).contains i) = true := by rfl) (hno : (own.map (·.2)).contains j = false := by rfl) (hs : ∀ z, foldedSetIterable (.Name x p) X.env z = pure z := by intro _; rfl) :
    SV X E (.Assign [.Name y py] (.ListComp elt [⟨tg, .Name x p, ifs, 0⟩] scope pos) spos) (sOwn i (fCompO j (own.map (·.2)) g mt me)) := (sv_ownLcO j i hc hN hy hyl hsw hx ok hg ht he hw hno hs).1
theorem sv_ownLc2 (i : Nat) {y : Str} {py spos : Pos} (hc : X.calm = true) (hN : X.N.Nodup) (hy : X.N[i]? = some y) (hyl : X.env.scope.names.lookup y = some .local)
    (hsw : swapsWith (.ListComp elt [⟨tg, iter, ifs, 0⟩] scope pos) (some (.Name y py)) spos.line X.env = pure true) (hi : IV X E tg iter src) (ok : BlkOk X.N X.env.scope scope own)
    (hg : ∀ (s : Shared) (H : Hp) (C : Addr) (cl : List (Str × Addr)) (fp : List Addr), GV (X.blk s H scope (compEnvC scope cl C X.env) fp) E0 ws tg g) (ht : ∀ (s : Shared) (H : Hp) (C : Addr) (cl : List (Str × Addr)) (fp : List Addr), TV (X.blk s H scope (compEnvC scope cl C X.env) fp) E0 ifs mt) (he : ∀ (s : Shared) (H : Hp) (C : Addr) (cl : List (Str × Addr)) (fp : List Addr), EV (X.blk s H scope (compEnvC scope cl C X.env) fp) E0 elt me) (hw : (ws.all fun i => (own.map (·.2)).contains i) = true := by rfl) (hs : ∀ x, foldedSetIterable iter X.env x = pure x := by intro _; rfl) :
    SV X E (.Assign [.Name y py] (.ListComp elt [⟨tg, iter, ifs, 0⟩] scope pos) spos) (sSet i (vL (fComp (own.map (·.2)) src g mt me))) := (sv_ownLc i hc hN hy hyl hsw hi ok hg ht he hw hs).2
theorem sv_ownLcO2 (j i : Nat) {y x : Str} {py p spos : Pos} (hc : X.calm = true) (hN : X.N.Nodup) (hy : X.N[i]? = some y) (hyl : X.env.scope.names.lookup y = some .local)
    (hsw : swapsWith (.ListComp elt [⟨tg, .Name x p, ifs, 0⟩] scope pos) (some (.Name y py)) spos.line X.env = pure true) (hx : PE X (.Name x p) (tVar j)) (ok : BlkOk X.N X.env.scope scope own)
    (hg : ∀ (s : Shared) (H : Hp) (C : Addr) (cl : List (Str × Addr)) (fp : List Addr), GV (X.blk s H scope (compEnvC scope cl C X.env) fp) E0 ws tg g) (ht : ∀ (s : Shared) (H : Hp) (C : Addr) (cl : List (Str × Addr)) (fp : List Addr), TV (X.blk s H scope (compEnvC scope cl C X.env) fp) E0 ifs mt) (he : ∀ (s : Shared) (H : Hp) (C : Addr) (cl : List (Str × Addr)) (fp : List Addr), EV (X.blk s H scope (compEnvC scope cl C X.env) fp) E0 elt me) (hw : (ws.all fun i => (own.map (·.2)).contains i) = true := by rfl) (hno : (own.map (·.2)).contains j = false := by rfl) (hs : ∀ z, foldedSetIterable (.Name x p) X.env z = pure z := by intro _; rfl) :
    SV X E (.Assign [.Name y py] (.ListComp elt [⟨tg, .Name x p, ifs, 0⟩] scope pos) spos) (sSet i (vL (fCompO j (own.map (·.2)) g mt me))) := (sv_ownLcO j i hc hN hy hyl hsw hx ok hg ht he hw hno hs).2
end

/-! ### the end -/
theorem end_call {P : Program} {w : World} {K : PySem.W.Frag} {mg mb : Str → Option Value} {CX : CXT} {k : Nat} {fa a : Addr} {fd : FuncData} {x : Str} {sp : Sp} {s₁ : Shared} {vs : List Value} {ns : List Int}
    (KX : K.In s₁.heap) (gns : s₁.heap.Ns mainGlobals mg) (bns : s₁.heap.Ns builtinsNs mb) (bbb : ∀ x : Str, x ≠ "__name__" → mb x = bootBuiltins x) (lim : s₁.heap.NoLimit) (nog : s₁.gens = #[]) (mods : ∃ mm, s₁.heap.Ns sysModules mm)
    (sat : s₁.heap.get? a = some { cls := .type "list", data := .seq vs.toArray }) (si : IntsAre vs ns) (sl : ns.length ≤ sizeLine) (room : RoomG k callerA)
    (F : ∀ base : Heap, K.In base → base.Ns mainGlobals mg → SysN base → FnG P w K mg base CX k fa fd [x] sp) (bnd1 : ∀ (s : Shared) (u : Value), BindsTo s fd ⟨[u], []⟩ [(x, u)])
    (prom : ∀ H : Hp, SqL K H a (ns.map V.int) → sp [.ref a] H (fun v _ => v = .bl true) fun _ _ _ => False) (noexc : ∀ H e s', CX [] H s₁ (fun _ _ _ => False) e s' → False) :
    codeAny (model P w) callerA (.call (.ref fa) ⟨[.ref a], []⟩) (fun r s' => r = .ok (.ret (.bool true)) ∧ OldK s₁.heap s'.heap ∧ s'.os = s₁.os ∧ AllBare s'.gens) s₁ := by
  have VI := vals_ints si
  have main : ∀ H : Hp, (∀ b, H b = none ∨ ∃ o xs, H b = some (.frz o (.lst xs))) → SqL K H a (ns.map V.int) → HOk P w H s₁.heap → (∀ b, H b ≠ none → b = a) → (H a ≠ none → K.lookup a = none) →
      codeAny (model P w) callerA (.call (.ref fa) ⟨[.ref a], []⟩) (fun r s' => r = .ok (.ret (.bool true)) ∧ OldK s₁.heap s'.heap ∧ s'.os = s₁.os ∧ AllBare s'.gens) s₁ := by
    intro H frzs scr ok one out
    have low : ∀ {b : Addr} {o : Obj}, s₁.heap.get? b = some o → H b = none → (hidT s₁.heap H).get? b = some o := fun q n => hidT_get q n
    have nodict : ∀ {b : Addr} {o : Obj} {es : Array DictEntry} {ep : Nat}, s₁.heap.get? b = some o → o.data = .dict es ep → H b = none := fun {b o es ep} q d => by
      cases z : H b with
      | none => rfl
      | some u =>
        have same := one b (by rw [z]; exact Option.some_ne_none u)
        subst same
        rw [sat] at q
        cases q
        have bad : Data.seq vs.toArray _ = Data.dict es ep := d
        cases bad
    have keepNs : ∀ {b : Addr} {m : Str → Option Value}, s₁.heap.Ns b m → (hidT s₁.heap H).Ns b m := fun {b m} q => by
      obtain ⟨o, es, ep, q1, q2, q3⟩ := q
      exact ⟨o, es, ep, low q1 (nodict q1 q2), q2, q3⟩
    have KB : K.In (hidT s₁.heap H) := fun b o q => low (KX b o q) (by
      cases z : H b with
      | none => rfl
      | some u =>
        have same := one b (by rw [z]; exact Option.some_ne_none u)
        subst same
        have nk := out (by rw [z]; exact Option.some_ne_none u)
        rw [nk] at q
        cases q)
    have MB : Mod K mg (hidT s₁.heap H) := by
      obtain ⟨mc, l1, l2⟩ := lim
      exact ⟨KB, keepNs gns, ⟨mb, keepNs bns, bbb⟩, ⟨mc, keepNs l1, l2⟩⟩
    have SB : SysN (hidT s₁.heap H) := by
      obtain ⟨mm, q⟩ := mods
      obtain ⟨o, es, ep, q1, q2, q3⟩ := q
      exact ⟨o, low q1 (nodict q1 q2)⟩
    have E0' : Env0 P w K mg (hidT s₁.heap H) callerA [] s₁ H :=
      ⟨rfl, MB, fun b o q => of_hidT q, Nat.le_of_eq (hidT_size _ _), trivial, fun b q => absurd (show b ∈ ([] : List Addr) from q) (by simp), ok, .of_eq nog⟩
    have ran := (F _ KB (keepNs gns) SB).run callerA [] s₁ H ⟨[.ref a], []⟩ [.ref a] [.ref a] _ _ room E0' (bnd1 s₁ (.ref a)) (.cons rfl .nil) (prom H scr)
    refine codeAny_mono ran fun r s' h => ?_
    cases r with
    | error e => exact (noexc H e s' h).elim
    | ok fl =>
      cases fl with
      | next => exact False.elim h
      | brk => exact False.elim h
      | cont => exact False.elim h
      | ret u =>
        obtain ⟨v, H', os, bare, un, ok', rv', qv⟩ := h
        have qv : v = .bl true := qv
        subst qv
        have ut : u = Value.bool true := rv'
        subst ut
        refine ⟨rfl, OldK.of_keep fun b o q => ?_, os, bare⟩
        cases z : H b with
        | none => exact un.keep b o q z (by intro y; exact absurd (show b ∈ ([] : List Addr) from y) (by simp)) (by simp)
        | some u =>
          rcases frzs b with y | ⟨ob, xs, y⟩
          · rw [z] at y
            cases y
          · obtain ⟨g1, _⟩ := ok b _ y
            obtain ⟨g2, _⟩ := ok' b _ (un.frzs b ob _ y)
            rw [q] at g1
            cases g1
            exact g2
  cases hk : K.lookup a with
  | some o =>
    have q := KX a o hk
    rw [sat] at q
    cases q
    exact main (fun _ => none) (fun _ => .inl rfl) (.inr ⟨_, vs.toArray, _, hk, rfl, rfl, rfl, by rw [List.size_toArray, si.length]; exact sl, by simpa using VI⟩) (fun b u z => nomatch (show (none : Option HO) = some u from z)) (fun b z => absurd rfl z) fun z => absurd rfl z
  | none =>
    refine main (fun b => if b = a then some (.frz { cls := .type "list", data := .seq vs.toArray } (.lst (ns.map V.int))) else none) (fun b => ?_) (.inl (.inr ⟨_, if_pos rfl⟩)) (fun b u z => ?_) (fun b z => ?_) fun _ => hk
    · by_cases q : b = a
      · exact .inr ⟨_, _, if_pos q⟩
      · exact .inl (if_neg q)
    · by_cases q : b = a
      · have y := (if_pos q).symm.trans z
        cases y
        subst q
        exact ⟨sat, by rw [List.length_map]; exact sl, vs, _, VI, sat⟩
      · have y := (if_neg q).symm.trans z
        cases y
    · by_cases q : b = a
      · exact q
      · exact absurd (if_neg q) z

/-- what k_head leaves, from the mirror of the law -/
theorem walk_fl {l : PySem.W.OpenLaw} {n k : Nat} {q : Program} {loose : List Str} {XP : (Str → Option Value) → Heap → Prop} {YP : World → Heap → Prop} {d : DefRec} {K : Params → PySem.W.Frag} {mf : MF} {x : Str}
    (hn : l.most = some n) (hn2 : n ≤ sizeLine) (hdf : d.params.defaults = []) (hr : Room k callerA) (hY : ∀ (w : World) (h : Heap), YP w h → (K w.params).In h) (hq : importsNone q = true)
    (F : ∀ (w : World) (mg : Str → Option Value) (fa : Addr) (h : Heap), (K w.params).In h → h.Ns mainGlobals mg → mg d.name = some (.ref fa) → ∃ fd : FuncData, (∀ (s : Shared) (u : Value), BindsTo s fd ⟨[u], []⟩ [(x, u)]) ∧
      ∀ base : Heap, (K w.params).In base → base.Ns mainGlobals mg → SysN base → FnG l.prog w (K w.params) mg base CX0 k fa fd [x] (spF (K w.params) mg 1 mf))
    (law : ∀ ns : List Int, ns.length ≤ n → ∃ st, mf [.scr ns] [] = .ok (.bl true) st) : PySem.W.WalkO q loose XP YP l.row.toRowW d [] (fun f vs => PySem.call f vs) := by
  refine Att.attach_call hn hdf fun w s₀ s₁ mg mb fa o pm cd doc a vs ns G Y ho hd hcd hmg hobj hints hlen hg => ?_
  obtain ⟨fd, hb, hF⟩ := F w mg fa _ (hY w _ Y) G.T.g hmg
  obtain ⟨st, hl⟩ := law ns hlen
  refine end_call (hY w _ Y) G.T.g G.T.b G.T.builtins G.T.nolimit hg ⟨_, (G.T.seer hq).mods.choose_spec.1⟩ hobj hints (Nat.le_trans hlen hn2) ⟨hr, rfl⟩ hF hb (fun H hS => ?_) fun H e s' h => h
  refine ⟨⟨K w.params, mg, [], H, fun _ => none⟩, [.scr ns], [], rfl, rfl, ⟨fun _ _ e => e, fun _ _ e => (nomatch e), rfl, List.nodup_nil, fun _ h => (nomatch h), fun _ h => absurd rfl h, fun _ h => (nomatch h), fun n a mo h => (nomatch h)⟩, Reps.cons ?_ Reps.nil, rfl, ?_⟩
  · simp only [Rep]
    exact ⟨a, rfl, hS⟩
  · rw [hl]
    intro W' H' v _ _ hv
    simpa only [Rep] using hv
end FL

set_option Elab.async false
set_option linter.all false
set_option maxRecDepth 100000
set_option maxHeartbeats 4000000
set_option exponentiation.threshold 20000
/-! FL15: tuples and dicts that the top has written. -/
namespace FL
open PySem PySem.Spec PyProof.Rows L2
theorem tup_mk {K : PySem.W.Frag} {t : Addr} {od : Option Addr} {its : Array Value} {n : Nat} {sl : Array (Option Value)} {vs : List V} (l : K.lookup t = some ⟨.type "tuple", od, .seq its n, sl⟩) (v : Vals vs its.toList) (h : vs.length ≤ 1000) (H : Hp) : SqT K H t vs :=
  .inr ⟨_, its, n, l, rfl, rfl, by
    have := v.length
    have e : its.size = its.toList.length := by simp
    rw [e, ← this]
    exact Nat.le_trans h (by rw [sizeLine_eq]; decide), v⟩
theorem find_tab {P : Params} : ∀ {l : List DictEntry} {ks : List Str}, l.map He.keyOf = He.keysIn P ks → ∀ z : Str, ((∃ e, l.find? (·.key.isStr z) = some e) ∧ z ∈ ks) ∨ (l.find? (·.key.isStr z) = none ∧ z ∉ ks ∧ l.any (·.refKey) = false)
  | [], [], _, z => .inr ⟨rfl, List.not_mem_nil, rfl⟩
  | [], k :: ks, h, z => by cases h
  | e :: l, [], h, z => by cases h
  | e :: l, k :: ks, h, z => by
    have h : He.keyOf e :: l.map He.keyOf = some (k, PyData.keyHash P k) :: He.keysIn P ks := h
    injection h with h1 h2
    obtain ⟨hash, key, val⟩ := e
    unfold He.keyOf at h1
    cases key <;> try (cases h1)
    rename_i t
    by_cases hz : z = k
    · subst hz
      left
      exact ⟨⟨_, List.find?_cons_of_pos (by show (z == z) = true; exact beq_self_eq_true z)⟩, List.mem_cons_self ..⟩
    · have hn : (Value.str k t).isStr z = false := beq_eq_false_iff_ne.mpr fun q => hz q.symm
      rcases find_tab h2 z with ⟨⟨e, he⟩, hm⟩ | ⟨he, hm, hr⟩
      · left
        exact ⟨⟨e, by rw [List.find?_cons_of_neg (by simpa using hn)]; exact he⟩, List.mem_cons_of_mem _ hm⟩
      · right
        refine ⟨by rw [List.find?_cons_of_neg (by simpa using hn)]; exact he, fun q => (List.mem_cons.mp q).elim hz hm, ?_⟩
        rw [List.any_cons, hr, Bool.or_false]
        rfl
theorem ns_tab {K : PySem.W.Frag} {P : Params} {d : Addr} {oc : Value} {od : Option Addr} {es : Array DictEntry} {n : Nat} {sl : Array (Option Value)} {ks : List Str} (l : K.lookup d = some ⟨oc, od, .dict es n, sl⟩) (h : es.toList.map He.keyOf = He.keysIn P ks) (z : Str) :
    ∃ r, PySem.W.nsIn K d z = some r ∧ decide (z ∈ ks) = r.isSome := by
  unfold PySem.W.nsIn
  rw [l]
  rcases find_tab h z with ⟨⟨e, he⟩, hm⟩ | ⟨he, hm, hr⟩
  · simp only [he]
    exact ⟨_, rfl, by simpa using hm⟩
  · simp only [he, hr]
    exact ⟨_, rfl, by simpa using hm⟩
theorem look_some {α : Type} : ∀ (tab : List (Str × α)) (z : Str), (tab.lookup z).isSome = decide (z ∈ tab.map (·.1))
  | [], z => by simp
  | (k, v) :: tab, z => by
    by_cases h : z = k
    · subst h
      simp
    · rw [List.lookup_cons, beq_eq_false_iff_ne.mpr h]
      simp only [look_some tab z, List.map_cons, List.mem_cons, h, false_or]
end FL

set_option Elab.async false
set_option linter.all false
set_option maxRecDepth 100000
set_option maxHeartbeats 4000000
set_option exponentiation.threshold 20000
namespace G_k74
open PySem PySem.Spec PyProof.Rows L2 FL
def topS (i : Nat) : Stmt := (PySem.Challenge.pw_termstream_k74_plans_by_form.main.body).getD i (.Pass ⟨0, 0, 0, 0⟩)
abbrev s_is_number : Stmt := topS 3
abbrev N_is_number : List Str := ["thing"]
abbrev P_is_number : List Str := ["thing"]
theorem sc_is_number : FnScope N_is_number P_is_number (defScope s_is_number) := ⟨rfl, rfl, rfl, by decide +kernel, rfl, by decide +kernel, by decide +kernel⟩
abbrev s_is_whole : Stmt := topS 4
abbrev N_is_whole : List Str := ["thing", "low", "high"]
abbrev P_is_whole : List Str := ["thing", "low", "high"]
theorem sc_is_whole : FnScope N_is_whole P_is_whole (defScope s_is_whole) := ⟨rfl, rfl, rfl, by decide +kernel, rfl, by decide +kernel, by decide +kernel⟩
abbrev s_has_only : Stmt := topS 5
abbrev N_has_only : List Str := ["text", "signs", "sign"]
abbrev P_has_only : List Str := ["text", "signs"]
theorem sc_has_only : FnScope N_has_only P_has_only (defScope s_has_only) := ⟨rfl, rfl, rfl, by decide +kernel, rfl, by decide +kernel, by decide +kernel⟩
abbrev s_is_name : Stmt := topS 6
abbrev N_is_name : List Str := ["thing"]
abbrev P_is_name : List Str := ["thing"]
theorem sc_is_name : FnScope N_is_name P_is_name (defScope s_is_name) := ⟨rfl, rfl, rfl, by decide +kernel, rfl, by decide +kernel, by decide +kernel⟩
abbrev s_is_manner : Stmt := topS 12
abbrev N_is_manner : List Str := ["thing"]
abbrev P_is_manner : List Str := ["thing"]
theorem sc_is_manner : FnScope N_is_manner P_is_manner (defScope s_is_manner) := ⟨rfl, rfl, rfl, by decide +kernel, rfl, by decide +kernel, by decide +kernel⟩
abbrev s_is_short : Stmt := topS 20
abbrev N_is_short : List Str := ["thing"]
abbrev P_is_short : List Str := ["thing"]
theorem sc_is_short : FnScope N_is_short P_is_short (defScope s_is_short) := ⟨rfl, rfl, rfl, by decide +kernel, rfl, by decide +kernel, by decide +kernel⟩
abbrev s_is_most : Stmt := topS 21
abbrev N_is_most : List Str := ["thing"]
abbrev P_is_most : List Str := ["thing"]
theorem sc_is_most : FnScope N_is_most P_is_most (defScope s_is_most) := ⟨rfl, rfl, rfl, by decide +kernel, rfl, by decide +kernel, by decide +kernel⟩
abbrev s_are_so_many : Stmt := topS 22
abbrev N_are_so_many : List Str := ["thing", "low", "high", "one"]
abbrev P_are_so_many : List Str := ["thing", "low", "high"]
theorem sc_are_so_many : FnScope N_are_so_many P_are_so_many (defScope s_are_so_many) := ⟨rfl, rfl, rfl, by decide +kernel, rfl, by decide +kernel, by decide +kernel⟩
abbrev s_are_terms : Stmt := topS 23
abbrev N_are_terms : List Str := ["thing"]
abbrev P_are_terms : List Str := ["thing"]
theorem sc_are_terms : FnScope N_are_terms P_are_terms (defScope s_are_terms) := ⟨rfl, rfl, rfl, by decide +kernel, rfl, by decide +kernel, by decide +kernel⟩
abbrev s_is_round : Stmt := topS 24
abbrev N_is_round : List Str := ["thing"]
abbrev P_is_round : List Str := ["thing"]
theorem sc_is_round : FnScope N_is_round P_is_round (defScope s_is_round) := ⟨rfl, rfl, rfl, by decide +kernel, rfl, by decide +kernel, by decide +kernel⟩
abbrev s_are_steps : Stmt := topS 25
abbrev N_are_steps : List Str := ["thing"]
abbrev P_are_steps : List Str := ["thing"]
theorem sc_are_steps : FnScope N_are_steps P_are_steps (defScope s_are_steps) := ⟨rfl, rfl, rfl, by decide +kernel, rfl, by decide +kernel, by decide +kernel⟩
abbrev s_are_two : Stmt := topS 26
abbrev N_are_two : List Str := ["thing", "many", "one"]
abbrev P_are_two : List Str := ["thing", "many"]
theorem sc_are_two : FnScope N_are_two P_are_two (defScope s_are_two) := ⟨rfl, rfl, rfl, by decide +kernel, rfl, by decide +kernel, by decide +kernel⟩
abbrev s_are_four : Stmt := topS 27
abbrev N_are_four : List Str := ["thing"]
abbrev P_are_four : List Str := ["thing"]
theorem sc_are_four : FnScope N_are_four P_are_four (defScope s_are_four) := ⟨rfl, rfl, rfl, by decide +kernel, rfl, by decide +kernel, by decide +kernel⟩
abbrev s_are_eight : Stmt := topS 28
abbrev N_are_eight : List Str := ["thing"]
abbrev P_are_eight : List Str := ["thing"]
theorem sc_are_eight : FnScope N_are_eight P_are_eight (defScope s_are_eight) := ⟨rfl, rfl, rfl, by decide +kernel, rfl, by decide +kernel, by decide +kernel⟩
abbrev s_fits : Stmt := topS 30
abbrev N_fits : List Str := ["kind", "thing", "look"]
abbrev P_fits : List Str := ["kind", "thing"]
theorem sc_fits : FnScope N_fits P_fits (defScope s_fits) := ⟨rfl, rfl, rfl, by decide +kernel, rfl, by decide +kernel, by decide +kernel⟩
abbrev s_is_plan_row : Stmt := topS 31
abbrev N_is_plan_row : List Str := ["thing", "shape", "kind", "one"]
abbrev P_is_plan_row : List Str := ["thing"]
theorem sc_is_plan_row : FnScope N_is_plan_row P_is_plan_row (defScope s_is_plan_row) := ⟨rfl, rfl, rfl, by decide +kernel, rfl, by decide +kernel, by decide +kernel⟩
abbrev s_are_rows : Stmt := topS 32
abbrev N_are_rows : List Str := ["thing"]
abbrev P_are_rows : List Str := ["thing"]
theorem sc_are_rows : FnScope N_are_rows P_are_rows (defScope s_are_rows) := ⟨rfl, rfl, rfl, by decide +kernel, rfl, by decide +kernel, by decide +kernel⟩
abbrev s_is_plan : Stmt := topS 33
abbrev N_is_plan : List Str := ["thing", "row"]
abbrev P_is_plan : List Str := ["thing"]
theorem sc_is_plan : FnScope N_is_plan P_is_plan (defScope s_is_plan) := ⟨rfl, rfl, rfl, by decide +kernel, rfl, by decide +kernel, by decide +kernel⟩
abbrev s_cell : Stmt := topS 35
abbrev N_cell : List Str := ["_law_script", "_law_k"]
abbrev P_cell : List Str := ["_law_script", "_law_k"]
theorem sc_cell : FnScope N_cell P_cell (defScope s_cell) := ⟨rfl, rfl, rfl, by decide +kernel, rfl, by decide +kernel, by decide +kernel⟩
abbrev s_purse : Stmt := topS 36
abbrev N_purse : List Str := ["_law_cell_here"]
abbrev P_purse : List Str := ["_law_cell_here"]
theorem sc_purse : FnScope N_purse P_purse (defScope s_purse) := ⟨rfl, rfl, rfl, by decide +kernel, rfl, by decide +kernel, by decide +kernel⟩
abbrev s_take : Stmt := topS 37
abbrev N_take : List Str := ["_law_purse_here", "_law_below", "_law_left", "_law_right", "_law_digit"]
abbrev P_take : List Str := ["_law_purse_here", "_law_below"]
theorem sc_take : FnScope N_take P_take (defScope s_take) := ⟨rfl, rfl, rfl, by decide +kernel, rfl, by decide +kernel, by decide +kernel⟩
abbrev s_names : Stmt := topS 38
abbrev N_names : List Str := ["_law_purse_here", "_law_size_here", "_law_letters", "_law_way", "_law_first", "_law_step", "_law_stem", "_law_at", "_law_found", "_law_k", "_law_words", "_law_head", "_law_tail", "_law_name"]
abbrev P_names : List Str := ["_law_purse_here", "_law_size_here"]
theorem sc_names : FnScope N_names P_names (defScope s_names) := ⟨rfl, rfl, rfl, by decide +kernel, rfl, by decide +kernel, by decide +kernel⟩
abbrev s_legal : Stmt := topS 40
abbrev N_legal : List Str := ["_law_purse_here", "_law_manner", "_law_pool", "_law_found", "_law_k", "_law_term"]
abbrev P_legal : List Str := ["_law_purse_here", "_law_manner"]
theorem sc_legal : FnScope N_legal P_legal (defScope s_legal) := ⟨rfl, rfl, rfl, by decide +kernel, rfl, by decide +kernel, by decide +kernel⟩
abbrev s_source : Stmt := topS 41
abbrev N_source : List Str := ["_law_purse_here", "_law_name", "_law_manner", "_law_way", "_law_again", "_law_steps", "_law_k", "_law_term"]
abbrev P_source : List Str := ["_law_purse_here", "_law_name"]
theorem sc_source : FnScope N_source P_source (defScope s_source) := ⟨rfl, rfl, rfl, by decide +kernel, rfl, by decide +kernel, by decide +kernel⟩
abbrev s_four : Stmt := topS 42
abbrev N_four : List Str := ["_law_purse_here", "_law_a", "_law_b", "_law_c", "_law_d", "_law_k"]
abbrev P_four : List Str := ["_law_purse_here"]
theorem sc_four : FnScope N_four P_four (defScope s_four) := ⟨rfl, rfl, rfl, by decide +kernel, rfl, by decide +kernel, by decide +kernel⟩
abbrev s_eight : Stmt := topS 43
abbrev N_eight : List Str := ["_law_purse_here", "_law_pool"]
abbrev P_eight : List Str := ["_law_purse_here"]
theorem sc_eight : FnScope N_eight P_eight (defScope s_eight) := ⟨rfl, rfl, rfl, by decide +kernel, rfl, by decide +kernel, by decide +kernel⟩
abbrev s_machine : Stmt := topS 44
abbrev N_machine : List Str := ["_law_purse_here", "_law_name", "_law_ahead", "_law_one", "_law_other", "_law_manner", "_law_most_here", "_law_way"]
abbrev P_machine : List Str := ["_law_purse_here", "_law_name", "_law_ahead"]
theorem sc_machine : FnScope N_machine P_machine (defScope s_machine) := ⟨rfl, rfl, rfl, by decide +kernel, rfl, by decide +kernel, by decide +kernel⟩
abbrev s_plan : Stmt := topS 45
abbrev N_plan : List Str := ["_law_purse_here", "_law_size_here", "_law_name", "_law_found", "_law_depths", "_law_ahead", "_law_pair", "_law_row", "_law_depth"]
abbrev P_plan : List Str := ["_law_purse_here", "_law_size_here"]
theorem sc_plan : FnScope N_plan P_plan (defScope s_plan) := ⟨rfl, rfl, rfl, by decide +kernel, rfl, by decide +kernel, by decide +kernel⟩
abbrev s_size : Stmt := topS 46
abbrev N_size : List Str := ["_law_purse_here"]
abbrev P_size : List Str := ["_law_purse_here"]
theorem sc_size : FnScope N_size P_size (defScope s_size) := ⟨rfl, rfl, rfl, by decide +kernel, rfl, by decide +kernel, by decide +kernel⟩
abbrev s_short : Stmt := topS 47
abbrev N_short : List Str := ["_law_thing"]
abbrev P_short : List Str := ["_law_thing"]
theorem sc_short : FnScope N_short P_short (defScope s_short) := ⟨rfl, rfl, rfl, by decide +kernel, rfl, by decide +kernel, by decide +kernel⟩
abbrev s_called : Stmt := topS 48
abbrev N_called : List Str := ["_law_thing", "_law_sign"]
abbrev P_called : List Str := ["_law_thing"]
theorem sc_called : FnScope N_called P_called (defScope s_called) := ⟨rfl, rfl, rfl, by decide +kernel, rfl, by decide +kernel, by decide +kernel⟩
abbrev s_numbers : Stmt := topS 49
abbrev N_numbers : List Str := ["_law_thing", "_law_low", "_law_high", "_law_one"]
abbrev P_numbers : List Str := ["_law_thing", "_law_low", "_law_high"]
theorem sc_numbers : FnScope N_numbers P_numbers (defScope s_numbers) := ⟨rfl, rfl, rfl, by decide +kernel, rfl, by decide +kernel, by decide +kernel⟩
abbrev s_word : Stmt := topS 50
abbrev N_word : List Str := ["_law_thing"]
abbrev P_word : List Str := ["_law_thing"]
theorem sc_word : FnScope N_word P_word (defScope s_word) := ⟨rfl, rfl, rfl, by decide +kernel, rfl, by decide +kernel, by decide +kernel⟩
abbrev s_most : Stmt := topS 51
abbrev N_most : List Str := ["_law_thing"]
abbrev P_most : List Str := ["_law_thing"]
theorem sc_most : FnScope N_most P_most (defScope s_most) := ⟨rfl, rfl, rfl, by decide +kernel, rfl, by decide +kernel, by decide +kernel⟩
abbrev s_two_rows : Stmt := topS 52
abbrev N_two_rows : List Str := ["_law_thing", "_law_many"]
abbrev P_two_rows : List Str := ["_law_thing", "_law_many"]
theorem sc_two_rows : FnScope N_two_rows P_two_rows (defScope s_two_rows) := ⟨rfl, rfl, rfl, by decide +kernel, rfl, by decide +kernel, by decide +kernel⟩
abbrev s_row_good : Stmt := topS 53
abbrev N_row_good : List Str := ["_law_row", "_law_sizes", "_law_many", "_law_more", "_law_name"]
abbrev P_row_good : List Str := ["_law_row"]
theorem sc_row_good : FnScope N_row_good P_row_good (defScope s_row_good) := ⟨rfl, rfl, rfl, by decide +kernel, rfl, by decide +kernel, by decide +kernel⟩
abbrev s_plan_good : Stmt := topS 54
abbrev N_plan_good : List Str := ["_law_thing", "_law_row"]
abbrev P_plan_good : List Str := ["_law_thing"]
theorem sc_plan_good : FnScope N_plan_good P_plan_good (defScope s_plan_good) := ⟨rfl, rfl, rfl, by decide +kernel, rfl, by decide +kernel, by decide +kernel⟩
abbrev s_spoilt_row : Stmt := topS 55
abbrev N_spoilt_row : List Str := ["_law_purse_here", "_law_row", "_law_way", "_law_at", "_law_odd", "_law_words"]
abbrev P_spoilt_row : List Str := ["_law_purse_here", "_law_row"]
theorem sc_spoilt_row : FnScope N_spoilt_row P_spoilt_row (defScope s_spoilt_row) := ⟨rfl, rfl, rfl, by decide +kernel, rfl, by decide +kernel, by decide +kernel⟩
abbrev s_may_spoil : Stmt := topS 56
abbrev N_may_spoil : List Str := ["_law_thing", "_law_row"]
abbrev P_may_spoil : List Str := ["_law_thing"]
theorem sc_may_spoil : FnScope N_may_spoil P_may_spoil (defScope s_may_spoil) := ⟨rfl, rfl, rfl, by decide +kernel, rfl, by decide +kernel, by decide +kernel⟩
abbrev s_spoilt : Stmt := topS 57
abbrev N_spoilt : List Str := ["_law_purse_here", "_law_plan_here", "_law_way", "_law_at"]
abbrev P_spoilt : List Str := ["_law_purse_here", "_law_plan_here"]
theorem sc_spoilt : FnScope N_spoilt P_spoilt (defScope s_spoilt) := ⟨rfl, rfl, rfl, by decide +kernel, rfl, by decide +kernel, by decide +kernel⟩
abbrev s_law : Stmt := topS 58
abbrev N_law : List Str := ["_law_script", "_law_k", "_law_purse_here", "_law_plan_here", "_law_step", "_law_thing", "_law_turn", "_law_kept", "_law_due"]
abbrev P_law : List Str := ["_law_script"]
theorem sc_law : FnScope N_law P_law (defScope s_law) := ⟨rfl, rfl, rfl, by decide +kernel, rfl, by decide +kernel, by decide +kernel⟩
def tab_FITS : List (Str × D) := [("name", .gl "is_name"), ("manner", .gl "is_manner"), ("number", .gl "is_short"), ("most", .gl "is_most"), ("terms", .gl "are_terms"), ("round", .gl "is_round"), ("steps", .gl "are_steps"), ("four", .gl "are_four"), ("eight", .gl "are_eight")]
def tab_SHAPES : List (Str × D) := [("row", .tup [.str "name", .str "manner", .str "terms"]), ("ruled", .tup [.str "name", .str "manner", .str "terms", .str "round", .str "steps"]), ("fed", .tup [.str "name", .str "manner"]), ("surd", .tup [.str "name", .str "number", .str "number", .str "number"]), ("one", .tup [.str "name", .str "name", .str "manner", .str "most", .str "four"]), ("two", .tup [.str "name", .str "name", .str "name", .str "manner", .str "most", .str "eight"]), ("root", .tup [.str "name", .str "name", .str "most"])]
/-! ### the mirrors -/
def b_purse : MS := (sRet (aL (fLst (aCons (callB biMax2 (aCons (mC (.int 0)) (aCons (op2 opSub (mVar 0) (op2 opPow (mC (.int 10)) (mC (.int 18)))) aNil))) (aCons (op2 opMod (mVar 0) (mC (.int 2147483563))) (aCons (mC (.int 0)) aNil))))))
def f_purse : MF := runB b_purse 1
def b_cell : MS := (sSeq (sIf (cmpB opLt (mVar 1) (callB biLen (aCons (mVar 0) aNil)))
     (sRet (op2 opIx (mVar 0) (mVar 1)))
     sSkip)
    (sRet (op2 opAdd (op2 opMul (mC (.int 6427)) (mVar 1)) (mC (.int 19)))))
def f_cell : MF := runB b_cell 2
def b_take : MS := (sSeq (sIf (cmpB opGt (op2 opIx (mVar 0) (mC (.int 0))) (mC (.int 0)))
     (sSeq (sSet 4 (op2 opMod (op2 opIx (mVar 0) (mC (.int 0))) (mVar 1)))
     (sSeq (sSetIx (mVar 0) (mC (.int 0)) (op2 opFdiv (op2 opIx (mVar 0) (mC (.int 0))) (mVar 1)))
     (sRet (mVar 4))))
     sSkip)
    (sSeq (sSetIx (mVar 0) (mC (.int 2)) (op2 opAdd (op2 opIx (mVar 0) (mC (.int 2))) (mC (.int 1))))
    (sSeq (sSet 2 (op2 opMod (op2 opPow (op2 opAdd (op2 opAdd (op2 opIx (mVar 0) (mC (.int 1))) (op2 opMul (mC (.int 5003)) (op2 opIx (mVar 0) (mC (.int 2))))) (mC (.int 23))) (mC (.int 5))) (mC (.int 2147483647))))
    (sSeq (sSet 3 (op2 opMod (op2 opPow (op2 opAdd (op2 opMul (op2 opIx (mVar 0) (mC (.int 1))) (op2 opIx (mVar 0) (mC (.int 2)))) (mC (.int 80021))) (mC (.int 3))) (mC (.int 2147483587))))
    (sRet (op2 opMod (op2 opFdiv (op2 opAdd (mVar 2) (op2 opMul (mC (.int 2147483647)) (mVar 3))) (mC (.int 16))) (mVar 1)))))))
def f_take : MF := runB b_take 5
def b_names : MS := (sSeq (sSet 2 (mC (.str "abcdefghijklmnopqrstuvwxyz")))
    (sSeq (sSet 3 (mCall 2 f_take [] (aCons (mVar 0) (aCons (mC (.int 4)) aNil))))
    (sSeq (sSet 4 (mCall 2 f_take [] (aCons (mVar 0) (aCons (mC (.int 26)) aNil))))
    (sSeq (sSet 5 (op2 opIx (vL (fLst (aCons (mC (.int 1)) (aCons (mC (.int 5)) (aCons (mC (.int 7)) (aCons (mC (.int 11)) aNil)))))) (mCall 2 f_take [] (aCons (mVar 0) (aCons (mC (.int 4)) aNil)))))
    (sSeq (sIf (cmpB opEq (mVar 3) (mC (.int 0)))
     (sSeq (sSet 10 (vL (fLst (aCons (mC (.str "row")) (aCons (mC (.str "ruled")) (aCons (mC (.str "fed")) (aCons (mC (.str "surd")) (aCons (mC (.str "one")) (aCons (mC (.str "two")) (aCons (mC (.str "root")) (aCons (mC (.str "floor")) (aCons (mC (.str "none")) (aCons (mC (.str "ask")) (aCons (mC (.str "load")) (aCons (mC (.str "plan")) aNil)))))))))))))))
     (sRet (vL (fComp [9] (itRange1 (mVar 1)) (gNm 9) (ret true) (op2 opIx (mVar 10) (op2 opMod (op2 opAdd (mVar 4) (op2 opMul (mVar 5) (mVar 9))) (mC (.int 12))))))))
     sSkip)
    (sSeq (sSet 6 (vL (fComp [9] (itRange1 (mCall 2 f_take [] (aCons (mVar 0) (aCons (mC (.int 5)) aNil)))) (gNm 9) (ret true) (op2 opIx (mVar 2) (mCall 2 f_take [] (aCons (mVar 0) (aCons (mC (.int 26)) aNil)))))))
    (sSeq (sSet 7 (mCall 2 f_take [] (aCons (mVar 0) (aCons (op2 opAdd (callB biLen (aCons (mVar 6) aNil)) (mC (.int 1))) aNil))))
    (sSeq (sPar 11 12 (aCons (mJoin (mC (.str "")) (mSlice (mVar 6) oNone (oSome (mVar 7)))) (aCons (mJoin (mC (.str "")) (mSlice (mVar 6) (oSome (mVar 7)) oNone)) aNil)))
    (sSeq (sOwn 8 (fLst aNil))
    (sSeq (sFor (itRange1 (mVar 1)) (gNm 9)
     (sSeq (sSet 13 (op2 opAdd (op2 opAdd (mVar 11) (op2 opIx (mVar 2) (op2 opMod (op2 opAdd (mVar 4) (op2 opMul (mVar 5) (mVar 9))) (mC (.int 26))))) (mVar 12)))
     (sApp 8 (mIf (cmpB opEq (mVar 3) (mC (.int 1))) (op2 opAdd (mVar 13) (op2 opMul (op2 opIx (mVar 2) (mVar 4)) (op2 opMod (mVar 9) (mC (.int 2))))) (mVar 13)))))
    (sRet (mFrz 8))))))))))))
def f_names : MF := runB b_names 14
def b_legal : MS := (sSeq (sSet 2 (op2 opDGet (mDict ["floor", "ceil", "near"] [(vL (fLst (aCons (mC (.int 1)) (aCons (mC (.int 1)) (aCons (mC (.int 2)) (aCons (mC (.int 3)) (aCons (mC (.int 40)) aNil))))))), (vL (fLst (aCons (mC (.int 2)) (aCons (mC (.int 2)) (aCons (mC (.int 3)) (aCons (mC (.int 4)) (aCons (mC (.int 50)) aNil))))))), (vL (fLst (aCons (mC (.int 3)) (aCons (mC (.int 3)) (aCons (mC (.int 4)) (aCons (mC (.int 5)) (aCons (mC (.int 60)) aNil)))))))]) (mVar 1)))
    (sSeq (sOwn 3 (fLst (aCons (op2 opSub (mCall 2 f_take [] (aCons (mVar 0) (aCons (mC (.int 9)) aNil))) (mC (.int 2))) aNil)))
    (sSeq (sFor (itRange1 (mCall 2 f_take [] (aCons (mVar 0) (aCons (op2 opIx (vL (fLst (aCons (mC (.int 4)) (aCons (mC (.int 30)) aNil)))) (callB biInt (aCons (cmpV opEq (mCall 2 f_take [] (aCons (mVar 0) (aCons (mC (.int 6)) aNil))) (mC (.int 0))) aNil))) aNil)))) (gNm 4)
     (sSeq (sSet 5 (op2 opIx (mVar 2) (mCall 2 f_take [] (aCons (mVar 0) (aCons (mC (.int 5)) aNil)))))
     (sApp 3 (op2 opMul (mVar 5) (op2 opSub (mC (.int 1)) (op2 opMul (mC (.int 2)) (callB biInt (aCons (vAnd (cmpV opEq (mVar 1) (mC (.str "near"))) (cmpV opEq (mCall 2 f_take [] (aCons (mVar 0) (aCons (mC (.int 3)) aNil))) (mC (.int 0)))) aNil))))))))
    (sSeq (sIf (bAnd (cmpB opGt (callB biLen (aCons (mVar 3) aNil)) (mC (.int 1))) (cmpB opEq (op2 opIx (mVar 3) (op1 opNeg (mC (.int 1)))) (mC (.int 1))))
     (sSetIx (mVar 3) (op1 opNeg (mC (.int 1))) (mC (.int 2)))
     sSkip)
    (sRet (callB biTuple (aCons (mVar 3) aNil)))))))
def f_legal : MF := runB b_legal 6
def b_source : MS := (sSeq (sSet 2 (op2 opIx (vL (fLst (aCons (mC (.str "floor")) (aCons (mC (.str "floor")) (aCons (mC (.str "ceil")) (aCons (mC (.str "near")) aNil)))))) (mCall 2 f_take [] (aCons (mVar 0) (aCons (mC (.int 4)) aNil)))))
    (sSeq (sSet 3 (mCall 2 f_take [] (aCons (mVar 0) (aCons (mC (.int 5)) aNil))))
    (sSeq (sIf (cmpB opLt (mVar 3) (mC (.int 2)))
     (sRet (mTup (aCons (mC (.str "row")) (aCons (mVar 1) (aCons (mVar 2) (aCons (mCall 2 f_legal [] (aCons (mVar 0) (aCons (mVar 2) aNil))) aNil))))))
     sSkip)
    (sSeq (sIf (cmpB opEq (mVar 3) (mC (.int 2)))
     (sSeq (sSet 4 (callB biTuple (aCons (vL (fComp [6] (itRange1 (op2 opAdd (mC (.int 1)) (mCall 2 f_take [] (aCons (mVar 0) (aCons (mC (.int 3)) aNil))))) (gNm 6) (ret true) (op2 opAdd (mC (.int 3)) (mCall 2 f_take [] (aCons (mVar 0) (aCons (mC (.int 5)) aNil)))))) aNil)))
     (sSeq (sSet 5 (callB biTuple (aCons (vL (fComp [7] (itSeq (mVar 4)) (gNm 7) (ret true) (mCall 2 f_take [] (aCons (mVar 0) (aCons (mC (.int 3)) aNil))))) aNil)))
     (sRet (mTup (aCons (mC (.str "ruled")) (aCons (mVar 1) (aCons (mVar 2) (aCons (mTup (aCons (op2 opSub (mCall 2 f_take [] (aCons (mVar 0) (aCons (mC (.int 9)) aNil))) (mC (.int 1))) aNil)) (aCons (mVar 4) (aCons (op2 opIx (vL (fLst (aCons (mC .non) (aCons (mVar 5) aNil)))) (mCall 2 f_take [] (aCons (mVar 0) (aCons (mC (.int 2)) aNil)))) aNil))))))))))
     sSkip)
    (sSeq (sIf (cmpB opEq (mVar 3) (mC (.int 3)))
     (sRet (mTup (aCons (mC (.str "fed")) (aCons (mVar 1) (aCons (mVar 2) aNil)))))
     sSkip)
    (sRet (mTup (aCons (mC (.str "surd")) (aCons (mVar 1) (aCons (op2 opSub (mCall 2 f_take [] (aCons (mVar 0) (aCons (mC (.int 20)) aNil))) (mC (.int 9))) (aCons (mCall 2 f_take [] (aCons (mVar 0) (aCons (mC (.int 50)) aNil))) (aCons (op2 opIx (vL (fLst (aCons (mC (.int 1)) (aCons (mC (.int 2)) (aCons (op2 opSub (mC (.int 0)) (mC (.int 3))) (aCons (mC (.int 7)) aNil)))))) (mCall 2 f_take [] (aCons (mVar 0) (aCons (mC (.int 4)) aNil)))) aNil))))))))))))
def f_source : MF := runB b_source 8
def b_eight : MS := (sSeq (sSet 1 (vL (fLst (aCons (mTup (aCons (mTup (aCons (mC (.int 0)) (aCons (mC (.int 1)) (aCons (mC (.int 1)) (aCons (mC (.int 0)) aNil))))) (aCons (mTup (aCons (mC (.int 0)) (aCons (mC (.int 0)) (aCons (mC (.int 0)) (aCons (mC (.int 1)) aNil))))) aNil))) (aCons (mTup (aCons (mTup (aCons (mC (.int 0)) (aCons (mC (.int 1)) (aCons (op2 opSub (mC (.int 0)) (mC (.int 1))) (aCons (mC (.int 0)) aNil))))) (aCons (mTup (aCons (mC (.int 0)) (aCons (mC (.int 0)) (aCons (mC (.int 0)) (aCons (mC (.int 1)) aNil))))) aNil))) (aCons (mTup (aCons (mTup (aCons (mC (.int 1)) (aCons (mC (.int 0)) (aCons (mC (.int 0)) (aCons (mC (.int 0)) aNil))))) (aCons (mTup (aCons (mC (.int 0)) (aCons (mC (.int 0)) (aCons (mC (.int 0)) (aCons (mC (.int 1)) aNil))))) aNil))) aNil))))))
    (sSeq (sSet 1 (op2 opAdd (mVar 1) (vL (fLst (aCons (mTup (aCons (mTup (aCons (mC (.int 0)) (aCons (mC (.int 1)) (aCons (mC (.int 0)) (aCons (mC (.int 0)) aNil))))) (aCons (mTup (aCons (mC (.int 0)) (aCons (mC (.int 0)) (aCons (mC (.int 1)) (aCons (mC (.int 0)) aNil))))) aNil))) (aCons (mTup (aCons (mTup (aCons (mC (.int 2)) (aCons (mC (.int 1)) (aCons (mC (.int 0)) (aCons (mC (.int 3)) aNil))))) (aCons (mTup (aCons (mC (.int 1)) (aCons (mC (.int 0)) (aCons (mC (.int 0)) (aCons (mC (.int 2)) aNil))))) aNil))) (aCons (mTup (aCons (mTup (aCons (mC (.int 1)) (aCons (mC (.int 2)) (aCons (mC (.int 3)) (aCons (mC (.int 4)) aNil))))) (aCons (mTup (aCons (mC (.int 0)) (aCons (mC (.int 1)) (aCons (mC (.int 1)) (aCons (mC (.int 1)) aNil))))) aNil))) aNil)))))))
    (sRet (op2 opIx (mVar 1) (mCall 2 f_take [] (aCons (mVar 0) (aCons (mC (.int 6)) aNil)))))))
def f_eight : MF := runB b_eight 2
def b_four : MS := (sSeq (sAsg (vL (fComp [5] (itRange1 (mC (.int 4))) (gNm 5) (ret true) (op2 opSub (mCall 2 f_take [] (aCons (mVar 0) (aCons (mC (.int 7)) aNil))) (mC (.int 2))))) (gLs (gCons (gNm 1) (gCons (gNm 2) (gCons (gNm 3) (gCons (gNm 4) gNil))))))
    (sRet (mIf (cmpB opNe (op2 opMul (mVar 1) (mVar 4)) (op2 opMul (mVar 2) (mVar 3))) (mTup (aCons (mTup (aCons (mVar 1) (aCons (mVar 2) aNil))) (aCons (mTup (aCons (mVar 3) (aCons (mVar 4) aNil))) aNil))) (mTup (aCons (mTup (aCons (mC (.int 1)) (aCons (mC (.int 0)) aNil))) (aCons (mTup (aCons (mC (.int 0)) (aCons (mC (.int 1)) aNil))) aNil))))))
def f_four : MF := runB b_four 6
def b_machine : MS := (sSeq (sSet 3 (op2 opIx (mVar 2) (mCall 2 f_take [] (aCons (mVar 0) (aCons (callB biLen (aCons (mVar 2) aNil)) aNil)))))
    (sSeq (sSet 4 (op2 opIx (mVar 2) (mCall 2 f_take [] (aCons (mVar 0) (aCons (callB biLen (aCons (mVar 2) aNil)) aNil)))))
    (sSeq (sSet 5 (op2 opIx (vL (fLst (aCons (mC (.str "floor")) (aCons (mC (.str "floor")) (aCons (mC (.str "ceil")) (aCons (mC (.str "near")) aNil)))))) (mCall 2 f_take [] (aCons (mVar 0) (aCons (mC (.int 4)) aNil)))))
    (sSeq (sSet 6 (op2 opIx (vL (fLst (aCons (mC (.int 40)) (aCons (mC (.int 64)) (aCons (mC (.int 1)) (aCons (op2 opAdd (mC (.int 1)) (mCall 2 f_take [] (aCons (mVar 0) (aCons (mC (.int 64)) aNil)))) aNil)))))) (mCall 2 f_take [] (aCons (mVar 0) (aCons (mC (.int 4)) aNil)))))
    (sSeq (sSet 7 (mCall 2 f_take [] (aCons (mVar 0) (aCons (mC (.int 4)) aNil))))
    (sSeq (sIf (cmpB opEq (mVar 7) (mC (.int 0)))
     (sRet (mTup (aCons (mTup (aCons (mC (.str "root")) (aCons (mVar 1) (aCons (op2 opIx (mVar 3) (mC (.int 0))) (aCons (mVar 6) aNil))))) (aCons (op2 opAdd (op2 opIx (mVar 3) (mC (.int 1))) (mC (.int 1))) aNil))))
     sSkip)
    (sSeq (sIf (cmpB opEq (mVar 7) (mC (.int 1)))
     (sRet (mTup (aCons (mTup (aCons (mC (.str "two")) (aCons (mVar 1) (aCons (op2 opIx (mVar 3) (mC (.int 0))) (aCons (op2 opIx (mVar 4) (mC (.int 0))) (aCons (mVar 5) (aCons (mVar 6) (aCons (mCall 1 f_eight [] (aCons (mVar 0) aNil)) aNil)))))))) (aCons (op2 opAdd (callB biMax2 (aCons (op2 opIx (mVar 3) (mC (.int 1))) (aCons (op2 opIx (mVar 4) (mC (.int 1))) aNil))) (mC (.int 1))) aNil))))
     sSkip)
    (sRet (mTup (aCons (mTup (aCons (mC (.str "one")) (aCons (mVar 1) (aCons (op2 opIx (mVar 3) (mC (.int 0))) (aCons (mVar 5) (aCons (mVar 6) (aCons (mCall 1 f_four [] (aCons (mVar 0) aNil)) aNil))))))) (aCons (op2 opAdd (op2 opIx (mVar 3) (mC (.int 1))) (mC (.int 1))) aNil)))))))))))
def f_machine : MF := runB b_machine 8
def b_plan : MS := (sSeq (sPar0 3 4)
    (sSeq (sFor (itSeq (mCall 2 f_names [] (aCons (mVar 0) (aCons (mVar 1) aNil)))) (gNm 2)
     (sSeq (sSet 5 (vL (fCompO 4 [6] (gNm 6) (cmpB opLt (op2 opIx (mVar 6) (mC (.int 1))) (mC (.int 4))) (mVar 6))))
     (sIf (bOr (cmpB opEq (mVar 5) (vL (fLst aNil))) (cmpB opEq (mCall 2 f_take [] (aCons (mVar 0) (aCons (mC (.int 2)) aNil))) (mC (.int 0))))
      (sSeq (sApp 3 (mCall 2 f_source [] (aCons (mVar 0) (aCons (mVar 2) aNil))))
      (sApp 4 (mTup (aCons (mVar 2) (aCons (mC (.int 0)) aNil)))))
      (sSeq (sAsg (mCall 3 f_machine [] (aCons (mVar 0) (aCons (mVar 2) (aCons (mVar 5) aNil)))) (gTp (gCons (gNm 7) (gCons (gNm 8) gNil))))
      (sSeq (sApp 3 (mVar 7))
      (sApp 4 (mTup (aCons (mVar 2) (aCons (mVar 8) aNil)))))))))
    (sRet (mFrz 3))))
def f_plan : MF := runB b_plan 9
def b_size : MS := (sRet (op2 opIx (vL (fLst (aCons (mC (.int 0)) (aCons (mC (.int 1)) (aCons (mC (.int 12)) (aCons (op2 opAdd (mC (.int 1)) (mCall 2 f_take [] (aCons (mVar 0) (aCons (mC (.int 6)) aNil)))) (aCons (mCall 2 f_take [] (aCons (mVar 0) (aCons (mC (.int 13)) aNil))) aNil))))))) (mCall 2 f_take [] (aCons (mVar 0) (aCons (mC (.int 5)) aNil)))))
def f_size : MF := runB b_size 1
def b_are_rows : MS := (sRet (vAnd (callB (biIsi2 .lst .tup) (aCons (mVar 0) aNil)) (cmpV opLe (callB biLen (aCons (mVar 0) aNil)) (mC (.int 12)))))
def f_are_rows : MF := runB b_are_rows 1
def b_has_only : MS := (sRet (callB biAll (aCons (vL (fComp [2] (itStr (mVar 0)) (gNm 2) (ret true) (cmpV opIn (mVar 2) (mVar 1)))) aNil)))
def f_has_only : MF := runB b_has_only 3
def b_is_name : MS := (sRet (vAnd (callB (biIsi .str) (aCons (mVar 0) aNil)) (vAnd (chainV opLe opLe (mC (.int 1)) (callB biLen (aCons (mVar 0) aNil)) (mC (.int 6))) (mCall 2 f_has_only [] (aCons (mVar 0) (aCons (mC (.str "abcdefghijklmnopqrstuvwxyz")) aNil))))))
def f_is_name : MF := runB b_is_name 1
def b_is_manner : MS := (sRet (vAnd (callB (biIsi .str) (aCons (mVar 0) aNil)) (cmpV opIn (mVar 0) (mC (.tup [.str "floor", .str "ceil", .str "near"])))))
def f_is_manner : MF := runB b_is_manner 1
def b_is_number : MS := (sRet (vAnd (callB (biIsi .int) (aCons (mVar 0) aNil)) (vNot (callB (biIsi .bl) (aCons (mVar 0) aNil)))))
def f_is_number : MF := runB b_is_number 1
def b_is_whole : MS := (sRet (vAnd (mCall 1 f_is_number [] (aCons (mVar 0) aNil)) (chainV opLe opLe (mVar 1) (mVar 0) (mVar 2))))
def f_is_whole : MF := runB b_is_whole 3
def b_is_short : MS := (sRet (mCall 3 f_is_whole [] (aCons (mVar 0) (aCons (op2 opSub (mC (.int 0)) (mC (.int 999999999999999999999999999999))) (aCons (mC (.int 999999999999999999999999999999)) aNil)))))
def f_is_short : MF := runB b_is_short 1
def b_is_most : MS := (sRet (mCall 3 f_is_whole [] (aCons (mVar 0) (aCons (mC (.int 1)) (aCons (mC (.int 64)) aNil)))))
def f_is_most : MF := runB b_is_most 1
def b_are_so_many : MS := (sRet (vAnd (callB (biIsi .tup) (aCons (mVar 0) aNil)) (vAnd (chainV opLe opLe (mVar 1) (callB biLen (aCons (mVar 0) aNil)) (mVar 2)) (callB biAll (aCons (vL (fComp [3] (itSeq (mVar 0)) (gNm 3) (ret true) (mCall 1 f_is_short [] (aCons (mVar 3) aNil)))) aNil)))))
def f_are_so_many : MF := runB b_are_so_many 4
def b_are_terms : MS := (sRet (mCall 3 f_are_so_many [] (aCons (mVar 0) (aCons (mC (.int 1)) (aCons (mC (.int 100)) aNil)))))
def f_are_terms : MF := runB b_are_terms 1
def b_is_round : MS := (sRet (mCall 3 f_are_so_many [] (aCons (mVar 0) (aCons (mC (.int 1)) (aCons (mC (.int 20)) aNil)))))
def f_is_round : MF := runB b_is_round 1
def b_are_steps : MS := (sRet (vOr (cmpV opIs (mVar 0) (mC .non)) (mCall 1 f_is_round [] (aCons (mVar 0) aNil))))
def f_are_steps : MF := runB b_are_steps 1
def b_are_two : MS := (sRet (vAnd (callB (biIsi .tup) (aCons (mVar 0) aNil)) (vAnd (cmpV opEq (callB biLen (aCons (mVar 0) aNil)) (mC (.int 2))) (callB biAll (aCons (vL (fComp [2] (itSeq (mVar 0)) (gNm 2) (ret true) (mCall 3 f_are_so_many [] (aCons (mVar 2) (aCons (mVar 1) (aCons (mVar 1) aNil)))))) aNil)))))
def f_are_two : MF := runB b_are_two 3
def b_are_four : MS := (sRet (mCall 2 f_are_two [] (aCons (mVar 0) (aCons (mC (.int 2)) aNil))))
def f_are_four : MF := runB b_are_four 1
def b_are_eight : MS := (sRet (mCall 2 f_are_two [] (aCons (mVar 0) (aCons (mC (.int 4)) aNil))))
def f_are_eight : MF := runB b_are_eight 1
def ftab : List (Str × MF) := [("is_name", f_is_name), ("is_manner", f_is_manner), ("is_short", f_is_short), ("is_most", f_is_most), ("are_terms", f_are_terms), ("is_round", f_is_round), ("are_steps", f_are_steps), ("are_four", f_are_four), ("are_eight", f_are_eight)]
def b_fits : MS := (sSeq (sSet 2 (op2 (opTIx "FITS" tab_FITS) (mC (.gl "FITS")) (mVar 0)))
    (sRet (mCallV 2 1 ftab (aCons (mVar 1) aNil))))
def f_fits : MF := runB b_fits 3
def b_is_plan_row : MS := (sSeq (sIf (bOr (bNot (bTru (callB (biIsi .tup) (aCons (mVar 0) aNil)))) (bOr (cmpB opEq (callB biLen (aCons (mVar 0) aNil)) (mC (.int 0))) (bOr (bNot (bTru (callB (biIsi .str) (aCons (op2 opIx (mVar 0) (mC (.int 0))) aNil)))) (cmpB (opTNotIn "SHAPES" tab_SHAPES) (op2 opIx (mVar 0) (mC (.int 0))) (mC (.gl "SHAPES"))))))
     (sRet (mC (.bl false)))
     sSkip)
    (sSeq (sSet 1 (op2 (opTIx "SHAPES" tab_SHAPES) (mC (.gl "SHAPES")) (op2 opIx (mVar 0) (mC (.int 0)))))
    (sRet (vAnd (cmpV opEq (callB biLen (aCons (mVar 0) aNil)) (op2 opAdd (callB biLen (aCons (mVar 1) aNil)) (mC (.int 1)))) (callB biAll (aCons (vL (fComp [2, 3] (itZip (mVar 1) (mSlice (mVar 0) (oSome (mC (.int 1))) oNone)) (gTp (gCons (gNm 2) (gCons (gNm 3) gNil))) (ret true) (mCall 2 f_fits [] (aCons (mVar 2) (aCons (mVar 3) aNil))))) aNil))))))
def f_is_plan_row : MF := runB b_is_plan_row 4
def b_is_plan : MS := (sRet (vAnd (mCall 1 f_are_rows [] (aCons (mVar 0) aNil)) (callB biAll (aCons (vL (fComp [1] (itSeq (mVar 0)) (gNm 1) (ret true) (mCall 1 f_is_plan_row [] (aCons (mVar 1) aNil)))) aNil))))
def f_is_plan : MF := runB b_is_plan 2
def b_may_spoil : MS := (sSeq (sIf (bNot (bTru (callB (biIsi .lst) (aCons (mVar 0) aNil))))
     (sRet (mC (.bl false)))
     sSkip)
    (sRet (cmpV opEq (vL (fComp [1] (itSeq (mVar 0)) (gNm 1) (bOr (bNot (bTru (callB (biIsi .tup) (aCons (mVar 1) aNil)))) (cmpB opEq (mVar 1) (mTup aNil))) (mVar 1))) (vL (fLst aNil)))))
def f_may_spoil : MF := runB b_may_spoil 2
def b_spoilt_row : MS := (sSeq (sSet 2 (mCall 2 f_take [] (aCons (mVar 0) (aCons (mC (.int 9)) aNil))))
    (sSeq (sSet 3 (mCall 2 f_take [] (aCons (mVar 0) (aCons (callB biLen (aCons (mVar 1) aNil)) aNil))))
    (sSeq (sIf (cmpB opLt (mVar 2) (mC (.int 3)))
     (sSeq (sSet 4 (vL (fLst (aCons (mC .non) (aCons (mC (.bl true)) (aCons (mC (.int 7)) (aCons (mC (.str "")) (aCons (mC (.str "Floor")) (aCons (mC (.str "none")) (aCons (mTup aNil) (aCons (mTup (aCons (mC (.int 1)) aNil)) (aCons (vL (fLst (aCons (mC (.int 1)) (aCons (mC (.int 2)) aNil)))) (aCons (mC (.int 0)) (aCons (mC (.int 65)) (aCons (op2 opSub (op2 opPow (mC (.int 10)) (mC (.int 30))) (mC (.int 1))) (aCons (mC (.dic [] [])) (aCons (mC (.str "sevenyz")) aNil)))))))))))))))))
     (sSeq (sSet 4 (op2 opAdd (mVar 4) (vL (fLst (aCons (mTup (aCons (mC (.bl true)) aNil)) (aCons (mTup (aCons (mC (.int 1)) (aCons (mC .non) aNil))) (aCons (mTup (aCons (mC (.str "1")) aNil)) (aCons (mTup (aCons (mTup (aCons (mC (.int 1)) (aCons (mC (.int 2)) aNil))) (aCons (mTup (aCons (mC (.int 3)) (aCons (mC (.int 4)) aNil))) aNil))) (aCons (mTup (aCons (mTup (aCons (mC (.int 1)) (aCons (mC (.int 2)) aNil))) (aCons (mTup (aCons (mC (.int 3)) aNil)) aNil))) (aCons (bnd (vRg2 (mC (.int 1)) (mC (.int 22))) fun xs => ret (.tup xs)) (aCons (mC (.str "near")) (aCons (mC (.str "x")) aNil))))))))))))
     (sRet (op2 opAdd (op2 opAdd (mSlice (mVar 1) oNone (oSome (mVar 3))) (mTup (aCons (op2 opIx (mVar 4) (mCall 2 f_take [] (aCons (mVar 0) (aCons (mC (.int 22)) aNil)))) aNil))) (mSlice (mVar 1) (oSome (op2 opAdd (mVar 3) (mC (.int 1)))) oNone)))))
     sSkip)
    (sSeq (sIf (cmpB opEq (mVar 2) (mC (.int 3)))
     (sRet (op2 opAdd (mSlice (mVar 1) oNone (oSome (mVar 3))) (mSlice (mVar 1) (oSome (op2 opAdd (mVar 3) (mC (.int 1)))) oNone)))
     sSkip)
    (sSeq (sIf (cmpB opEq (mVar 2) (mC (.int 4)))
     (sRet (op2 opAdd (op2 opAdd (mSlice (mVar 1) oNone (oSome (mVar 3))) (mSlice (mVar 1) (oSome (mVar 3)) (oSome (op2 opAdd (mVar 3) (mC (.int 1)))))) (mSlice (mVar 1) (oSome (mVar 3)) oNone)))
     sSkip)
    (sSeq (sIf (cmpB opEq (mVar 2) (mC (.int 5)))
     (sRet (callB biList (aCons (mVar 1) aNil)))
     sSkip)
    (sSeq (sIf (cmpB opEq (mVar 2) (mC (.int 6)))
     (sRet (op2 opIx (vL (fLst (aCons (mC .non) (aCons (mC (.int 7)) (aCons (mC (.str "row")) (aCons (mTup aNil) (aCons (vL (fLst aNil)) (aCons (mC (.dic [] [])) (aCons (mTup (aCons (mC (.str "row")) aNil)) aNil))))))))) (mCall 2 f_take [] (aCons (mVar 0) (aCons (mC (.int 7)) aNil)))))
     sSkip)
    (sSeq (sIf (cmpB opEq (mVar 2) (mC (.int 7)))
     (sSeq (sSet 5 (vL (fLst (aCons (mC (.str "row")) (aCons (mC (.str "ruled")) (aCons (mC (.str "fed")) (aCons (mC (.str "surd")) (aCons (mC (.str "one")) (aCons (mC (.str "two")) (aCons (mC (.str "root")) (aCons (mC (.str "Row")) (aCons (mC (.str "load")) (aCons (mC (.str "")) aNil)))))))))))))
     (sRet (op2 opAdd (mTup (aCons (op2 opIx (mVar 5) (mCall 2 f_take [] (aCons (mVar 0) (aCons (mC (.int 10)) aNil)))) aNil)) (mSlice (mVar 1) (oSome (mC (.int 1))) oNone))))
     sSkip)
    (sRet (mVar 1))))))))))
def f_spoilt_row : MF := runB b_spoilt_row 6
def b_spoilt : MS := (sSeq (sSet 2 (mCall 2 f_take [] (aCons (mVar 0) (aCons (mC (.int 8)) aNil))))
    (sSeq (sSet 3 (mCall 2 f_take [] (aCons (mVar 0) (aCons (callB biMax2 (aCons (mC (.int 1)) (aCons (callB biLen (aCons (mVar 1) aNil)) aNil))) aNil))))
    (sSeq (sIf (bAnd (cmpB opLt (mVar 2) (mC (.int 4))) (cmpB opNe (mVar 1) (vL (fLst aNil))))
     (sRet (op2 opAdd (op2 opAdd (mSlice (mVar 1) oNone (oSome (mVar 3))) (vL (fLst (aCons (mCall 2 f_spoilt_row [] (aCons (mVar 0) (aCons (op2 opIx (mVar 1) (mVar 3)) aNil))) aNil)))) (mSlice (mVar 1) (oSome (op2 opAdd (mVar 3) (mC (.int 1)))) oNone)))
     sSkip)
    (sSeq (sIf (cmpB opEq (mVar 2) (mC (.int 4)))
     (sRet (op2 opAdd (mVar 1) (mSlice (mVar 1) (oSome (mVar 3)) (oSome (op2 opAdd (mVar 3) (mC (.int 1)))))))
     sSkip)
    (sSeq (sIf (cmpB opEq (mVar 2) (mC (.int 5)))
     (sRet (op2 opIx (vL (fLst (aCons (mC .non) (aCons (mC (.int 7)) (aCons (mC (.str "")) (aCons (mC (.str "row a floor 1")) (aCons (mC (.dic [] [])) (aCons (mTup (aCons (mC (.str "row")) (aCons (mC (.str "a")) (aCons (mC (.str "floor")) (aCons (mTup (aCons (mC (.int 1)) aNil)) aNil))))) (aCons (mC (.bl true)) (aCons (vL (fLst (aCons (vL (fLst aNil)) aNil))) aNil)))))))))) (mCall 2 f_take [] (aCons (mVar 0) (aCons (mC (.int 8)) aNil)))))
     sSkip)
    (sSeq (sIf (cmpB opEq (mVar 2) (mC (.int 6)))
     (sRet (op1 opRev (mVar 1)))
     sSkip)
    (sRet (mVar 1))))))))
def f_spoilt : MF := runB b_spoilt 4
def b_called : MS := (sSeq (sIf (bOr (bNot (bTru (callB (biIsi .str) (aCons (mVar 0) aNil)))) (bNot (chainB opLe opLe (mC (.int 1)) (callB biLen (aCons (mVar 0) aNil)) (mC (.int 6)))))
     (sRet (mC (.bl false)))
     sSkip)
    (sRet (cmpV opEq (vL (fComp [1] (itStr (mVar 0)) (gNm 1) (cmpB opNotIn (mVar 1) (mC (.str "abcdefghijklmnopqrstuvwxyz"))) (mVar 1))) (vL (fLst aNil)))))
def f_called : MF := runB b_called 2
def b_short : MS := (sRet (vAnd (callB (biIsi .int) (aCons (mVar 0) aNil)) (vAnd (vNot (callB (biIsi .bl) (aCons (mVar 0) aNil))) (chainV opLt opLt (op2 opSub (mC (.int 0)) (op2 opPow (mC (.int 10)) (mC (.int 30)))) (mVar 0) (op2 opPow (mC (.int 10)) (mC (.int 30)))))))
def f_short : MF := runB b_short 1
def b_numbers : MS := (sSeq (sIf (bOr (bNot (bTru (callB (biIsi .tup) (aCons (mVar 0) aNil)))) (bNot (chainB opLe opLe (mVar 1) (callB biLen (aCons (mVar 0) aNil)) (mVar 2))))
     (sRet (mC (.bl false)))
     sSkip)
    (sRet (cmpV opEq (vL (fComp [3] (itSeq (mVar 0)) (gNm 3) (bNot (bTru (mCall 1 f_short [] (aCons (mVar 3) aNil)))) (mVar 3))) (vL (fLst aNil)))))
def f_numbers : MF := runB b_numbers 4
def b_word : MS := (sRet (vAnd (callB (biIsi .str) (aCons (mVar 0) aNil)) (cmpV opIn (mVar 0) (mTup (aCons (mC (.str "floor")) (aCons (mC (.str "ceil")) (aCons (mC (.str "near")) aNil)))))))
def f_word : MF := runB b_word 1
def b_most : MS := (sRet (vAnd (mCall 1 f_short [] (aCons (mVar 0) aNil)) (chainV opLe opLe (mC (.int 1)) (mVar 0) (mC (.int 64)))))
def f_most : MF := runB b_most 1
def b_two_rows : MS := (sSeq (sIf (bOr (bNot (bTru (callB (biIsi .tup) (aCons (mVar 0) aNil)))) (cmpB opNe (callB biLen (aCons (mVar 0) aNil)) (mC (.int 2))))
     (sRet (mC (.bl false)))
     sSkip)
    (sRet (vAnd (mCall 3 f_numbers [] (aCons (op2 opIx (mVar 0) (mC (.int 0))) (aCons (mVar 1) (aCons (mVar 1) aNil)))) (mCall 3 f_numbers [] (aCons (op2 opIx (mVar 0) (mC (.int 1))) (aCons (mVar 1) (aCons (mVar 1) aNil)))))))
def f_two_rows : MF := runB b_two_rows 2
def b_row_good : MS := (sSeq (sIf (bOr (bNot (bTru (callB (biIsi .tup) (aCons (mVar 0) aNil)))) (bOr (cmpB opEq (callB biLen (aCons (mVar 0) aNil)) (mC (.int 0))) (bNot (bTru (callB (biIsi .str) (aCons (op2 opIx (mVar 0) (mC (.int 0))) aNil))))))
     (sRet (mC (.bl false)))
     sSkip)
    (sSeq (sSet 1 (mDict ["row", "ruled", "fed", "surd", "one", "two", "root"] [(mC (.int 4)), (mC (.int 6)), (mC (.int 3)), (mC (.int 5)), (mC (.int 6)), (mC (.int 7)), (mC (.int 4))]))
    (sSeq (sIf (bOr (cmpB opDNotIn (op2 opIx (mVar 0) (mC (.int 0))) (mVar 1)) (bOr (cmpB opNe (callB biLen (aCons (mVar 0) aNil)) (op2 opDGet (mVar 1) (op2 opIx (mVar 0) (mC (.int 0))))) (bNot (bTru (mCall 1 f_called [] (aCons (op2 opIx (mVar 0) (mC (.int 1))) aNil))))))
     (sRet (mC (.bl false)))
     sSkip)
    (sSeq (sIf (cmpB opEq (op2 opIx (mVar 0) (mC (.int 0))) (mC (.str "surd")))
     (sRet (mCall 3 f_numbers [] (aCons (mSlice (mVar 0) (oSome (mC (.int 2))) oNone) (aCons (mC (.int 3)) (aCons (mC (.int 3)) aNil)))))
     sSkip)
    (sSeq (sIf (bAnd (cmpB opIn (op2 opIx (mVar 0) (mC (.int 0))) (mTup (aCons (mC (.str "row")) (aCons (mC (.str "ruled")) (aCons (mC (.str "fed")) aNil))))) (bNot (bTru (mCall 1 f_word [] (aCons (op2 opIx (mVar 0) (mC (.int 2))) aNil)))))
     (sRet (mC (.bl false)))
     sSkip)
    (sSeq (sIf (cmpB opEq (op2 opIx (mVar 0) (mC (.int 0))) (mC (.str "fed")))
     (sRet (mC (.bl true)))
     sSkip)
    (sSeq (sIf (bAnd (cmpB opIn (op2 opIx (mVar 0) (mC (.int 0))) (mTup (aCons (mC (.str "row")) (aCons (mC (.str "ruled")) aNil)))) (bNot (bTru (mCall 3 f_numbers [] (aCons (op2 opIx (mVar 0) (mC (.int 3))) (aCons (mC (.int 1)) (aCons (mC (.int 100)) aNil)))))))
     (sRet (mC (.bl false)))
     sSkip)
    (sSeq (sIf (cmpB opEq (op2 opIx (mVar 0) (mC (.int 0))) (mC (.str "ruled")))
     (sRet (vAnd (mCall 3 f_numbers [] (aCons (op2 opIx (mVar 0) (mC (.int 4))) (aCons (mC (.int 1)) (aCons (mC (.int 20)) aNil)))) (vOr (cmpV opIs (op2 opIx (mVar 0) (mC (.int 5))) (mC .non)) (mCall 3 f_numbers [] (aCons (op2 opIx (mVar 0) (mC (.int 5))) (aCons (mC (.int 1)) (aCons (mC (.int 20)) aNil)))))))
     sSkip)
    (sSeq (sIf (cmpB opEq (op2 opIx (mVar 0) (mC (.int 0))) (mC (.str "row")))
     (sRet (mC (.bl true)))
     sSkip)
    (sSeq (sIf (cmpB opEq (op2 opIx (mVar 0) (mC (.int 0))) (mC (.str "root")))
     (sRet (vAnd (mCall 1 f_called [] (aCons (op2 opIx (mVar 0) (mC (.int 2))) aNil)) (mCall 1 f_most [] (aCons (op2 opIx (mVar 0) (mC (.int 3))) aNil))))
     sSkip)
    (sSeq (sSet 2 (op2 opAdd (mC (.int 2)) (callB biInt (aCons (cmpV opEq (op2 opIx (mVar 0) (mC (.int 0))) (mC (.str "two"))) aNil))))
    (sSeq (sIf (cmpB opNe (vL (fComp [4] (itSeq (mSlice (mVar 0) (oSome (mC (.int 2))) (oSome (op2 opAdd (mC (.int 1)) (mVar 2))))) (gNm 4) (bNot (bTru (mCall 1 f_called [] (aCons (mVar 4) aNil)))) (mVar 4))) (vL (fLst aNil)))
     (sRet (mC (.bl false)))
     sSkip)
    (sSeq (sSet 3 (mSlice (mVar 0) (oSome (op2 opAdd (mC (.int 1)) (mVar 2))) oNone))
    (sRet (vAnd (mCall 1 f_word [] (aCons (op2 opIx (mVar 3) (mC (.int 0))) aNil)) (vAnd (mCall 1 f_most [] (aCons (op2 opIx (mVar 3) (mC (.int 1))) aNil)) (mCall 2 f_two_rows [] (aCons (op2 opIx (mVar 3) (mC (.int 2))) (aCons (op2 opSub (op2 opMul (mC (.int 2)) (mVar 2)) (mC (.int 2))) aNil)))))))))))))))))))
def f_row_good : MF := runB b_row_good 5
def b_plan_good : MS := (sSeq (sIf (bOr (bNot (bTru (callB (biIsi2 .lst .tup) (aCons (mVar 0) aNil)))) (cmpB opGt (callB biLen (aCons (mVar 0) aNil)) (mC (.int 12))))
     (sRet (mC (.bl false)))
     sSkip)
    (sRet (cmpV opEq (vL (fComp [1] (itSeq (mVar 0)) (gNm 1) (bNot (bTru (mCall 1 f_row_good [] (aCons (mVar 1) aNil)))) (mVar 1))) (vL (fLst aNil)))))
def f_plan_good : MF := runB b_plan_good 2
def b_law : MS := (sSeq (sFor (itRange1 (callB biMax2 (aCons (mC (.int 2)) (aCons (callB biMin2 (aCons (mC (.int 8)) (aCons (callB biLen (aCons (mVar 0) aNil)) aNil))) aNil)))) (gNm 1)
     (sSeq (sSet 2 (mCall 1 f_purse [] (aCons (mCall 2 f_cell [] (aCons (mVar 0) (aCons (mVar 1) aNil))) aNil)))
     (sSeq (sSet 3 (mCall 2 f_plan [] (aCons (mVar 2) (aCons (mCall 1 f_size [] (aCons (mVar 2) aNil)) aNil))))
     (sSeq (sIf (cmpB opIsNot (mCall 1 f_is_plan [] (aCons (mVar 3) aNil)) (mC (.bl true)))
      (sRet (mC (.bl false)))
      sSkip)
     (sSeq (sFor (itRange1 (mC (.int 3))) (gNm 4)
      (sSeq (sSet 5 (mVar 3))
      (sSeq (sFor (itRange1 (op2 opAdd (mC (.int 1)) (mCall 2 f_take [] (aCons (mVar 2) (aCons (mC (.int 2)) aNil))))) (gNm 6)
       (sIf (bTru (mCall 1 f_may_spoil [] (aCons (mVar 5) aNil)))
        (sSet 5 (mCall 2 f_spoilt [] (aCons (mVar 2) (aCons (mVar 5) aNil))))
        sSkip))
      (sSeq (sSet 7 (callB biRepr (aCons (mVar 5) aNil)))
      (sSeq (sSet 8 (callB biRepr (aCons (mCall 1 f_plan_good [] (aCons (mVar 5) aNil)) aNil)))
      (sSeq (sIf (bOr (cmpB opNe (callB biRepr (aCons (mCall 1 f_is_plan [] (aCons (mVar 5) aNil)) aNil)) (mVar 8)) (bOr (cmpB opNe (callB biRepr (aCons (mCall 1 f_is_plan [] (aCons (mVar 5) aNil)) aNil)) (mVar 8)) (cmpB opNe (callB biRepr (aCons (mVar 5) aNil)) (mVar 7))))
       (sRet (mC (.bl false)))
       sSkip)
      (sIf (bAnd (bTru (callB (biIsi .lst) (aCons (mVar 5) aNil))) (cmpB opNe (callB biRepr (aCons (mCall 1 f_is_plan [] (aCons (callB biTuple (aCons (mVar 5) aNil)) aNil)) aNil)) (mVar 8)))
       (sRet (mC (.bl false)))
       sSkip)))))))
     (sIf (cmpB opIsNot (mCall 1 f_is_plan [] (aCons (mVar 3) aNil)) (mC (.bl true)))
      (sRet (mC (.bl false)))
      sSkip))))))
    (sRet (mC (.bl true))))
def f_law : MF := runB b_law 9
/-! ### what the top has written -/
structure Tops (K : PySem.W.Frag) (wd : World) (mg : Str → Option Value) (A : Nat → Addr) (F : Nat → FuncData) : Prop where
  F_is_number : L2.Fun K "is_number" "is_number" s_is_number (A 0) (F 0)
  b_is_number : Binds K (F 0) P_is_number []
  g_is_number : mg "is_number" = some (.ref (A 0))
  F_is_whole : L2.Fun K "is_whole" "is_whole" s_is_whole (A 1) (F 1)
  b_is_whole : Binds K (F 1) P_is_whole []
  g_is_whole : mg "is_whole" = some (.ref (A 1))
  F_has_only : L2.Fun K "has_only" "has_only" s_has_only (A 2) (F 2)
  b_has_only : Binds K (F 2) P_has_only []
  g_has_only : mg "has_only" = some (.ref (A 2))
  F_is_name : L2.Fun K "is_name" "is_name" s_is_name (A 3) (F 3)
  b_is_name : Binds K (F 3) P_is_name []
  g_is_name : mg "is_name" = some (.ref (A 3))
  F_is_manner : L2.Fun K "is_manner" "is_manner" s_is_manner (A 4) (F 4)
  b_is_manner : Binds K (F 4) P_is_manner []
  g_is_manner : mg "is_manner" = some (.ref (A 4))
  F_is_short : L2.Fun K "is_short" "is_short" s_is_short (A 5) (F 5)
  b_is_short : Binds K (F 5) P_is_short []
  g_is_short : mg "is_short" = some (.ref (A 5))
  F_is_most : L2.Fun K "is_most" "is_most" s_is_most (A 6) (F 6)
  b_is_most : Binds K (F 6) P_is_most []
  g_is_most : mg "is_most" = some (.ref (A 6))
  F_are_so_many : L2.Fun K "are_so_many" "are_so_many" s_are_so_many (A 7) (F 7)
  b_are_so_many : Binds K (F 7) P_are_so_many []
  g_are_so_many : mg "are_so_many" = some (.ref (A 7))
  F_are_terms : L2.Fun K "are_terms" "are_terms" s_are_terms (A 8) (F 8)
  b_are_terms : Binds K (F 8) P_are_terms []
  g_are_terms : mg "are_terms" = some (.ref (A 8))
  F_is_round : L2.Fun K "is_round" "is_round" s_is_round (A 9) (F 9)
  b_is_round : Binds K (F 9) P_is_round []
  g_is_round : mg "is_round" = some (.ref (A 9))
  F_are_steps : L2.Fun K "are_steps" "are_steps" s_are_steps (A 10) (F 10)
  b_are_steps : Binds K (F 10) P_are_steps []
  g_are_steps : mg "are_steps" = some (.ref (A 10))
  F_are_two : L2.Fun K "are_two" "are_two" s_are_two (A 11) (F 11)
  b_are_two : Binds K (F 11) P_are_two []
  g_are_two : mg "are_two" = some (.ref (A 11))
  F_are_four : L2.Fun K "are_four" "are_four" s_are_four (A 12) (F 12)
  b_are_four : Binds K (F 12) P_are_four []
  g_are_four : mg "are_four" = some (.ref (A 12))
  F_are_eight : L2.Fun K "are_eight" "are_eight" s_are_eight (A 13) (F 13)
  b_are_eight : Binds K (F 13) P_are_eight []
  g_are_eight : mg "are_eight" = some (.ref (A 13))
  F_fits : L2.Fun K "fits" "fits" s_fits (A 14) (F 14)
  b_fits : Binds K (F 14) P_fits []
  g_fits : mg "fits" = some (.ref (A 14))
  F_is_plan_row : L2.Fun K "is_plan_row" "is_plan_row" s_is_plan_row (A 15) (F 15)
  b_is_plan_row : Binds K (F 15) P_is_plan_row []
  g_is_plan_row : mg "is_plan_row" = some (.ref (A 15))
  F_are_rows : L2.Fun K "are_rows" "are_rows" s_are_rows (A 16) (F 16)
  b_are_rows : Binds K (F 16) P_are_rows []
  g_are_rows : mg "are_rows" = some (.ref (A 16))
  F_is_plan : L2.Fun K "is_plan" "is_plan" s_is_plan (A 17) (F 17)
  b_is_plan : Binds K (F 17) P_is_plan []
  g_is_plan : mg "is_plan" = some (.ref (A 17))
  F_cell : L2.Fun K "_law_cell" "_law_cell" s_cell (A 18) (F 18)
  b_cell : Binds K (F 18) P_cell []
  g_cell : mg "_law_cell" = some (.ref (A 18))
  F_purse : L2.Fun K "_law_purse" "_law_purse" s_purse (A 19) (F 19)
  b_purse : Binds K (F 19) P_purse []
  g_purse : mg "_law_purse" = some (.ref (A 19))
  F_take : L2.Fun K "_law_take" "_law_take" s_take (A 20) (F 20)
  b_take : Binds K (F 20) P_take []
  g_take : mg "_law_take" = some (.ref (A 20))
  F_names : L2.Fun K "_law_names" "_law_names" s_names (A 21) (F 21)
  b_names : Binds K (F 21) P_names []
  g_names : mg "_law_names" = some (.ref (A 21))
  F_legal : L2.Fun K "_law_legal" "_law_legal" s_legal (A 22) (F 22)
  b_legal : Binds K (F 22) P_legal []
  g_legal : mg "_law_legal" = some (.ref (A 22))
  F_source : L2.Fun K "_law_source" "_law_source" s_source (A 23) (F 23)
  b_source : Binds K (F 23) P_source []
  g_source : mg "_law_source" = some (.ref (A 23))
  F_four : L2.Fun K "_law_four" "_law_four" s_four (A 24) (F 24)
  b_four : Binds K (F 24) P_four []
  g_four : mg "_law_four" = some (.ref (A 24))
  F_eight : L2.Fun K "_law_eight" "_law_eight" s_eight (A 25) (F 25)
  b_eight : Binds K (F 25) P_eight []
  g_eight : mg "_law_eight" = some (.ref (A 25))
  F_machine : L2.Fun K "_law_machine" "_law_machine" s_machine (A 26) (F 26)
  b_machine : Binds K (F 26) P_machine []
  g_machine : mg "_law_machine" = some (.ref (A 26))
  F_plan : L2.Fun K "_law_plan" "_law_plan" s_plan (A 27) (F 27)
  b_plan : Binds K (F 27) P_plan []
  g_plan : mg "_law_plan" = some (.ref (A 27))
  F_size : L2.Fun K "_law_size" "_law_size" s_size (A 28) (F 28)
  b_size : Binds K (F 28) P_size []
  g_size : mg "_law_size" = some (.ref (A 28))
  F_short : L2.Fun K "_law_short" "_law_short" s_short (A 29) (F 29)
  b_short : Binds K (F 29) P_short []
  g_short : mg "_law_short" = some (.ref (A 29))
  F_called : L2.Fun K "_law_called" "_law_called" s_called (A 30) (F 30)
  b_called : Binds K (F 30) P_called []
  g_called : mg "_law_called" = some (.ref (A 30))
  F_numbers : L2.Fun K "_law_numbers" "_law_numbers" s_numbers (A 31) (F 31)
  b_numbers : Binds K (F 31) P_numbers []
  g_numbers : mg "_law_numbers" = some (.ref (A 31))
  F_word : L2.Fun K "_law_word" "_law_word" s_word (A 32) (F 32)
  b_word : Binds K (F 32) P_word []
  g_word : mg "_law_word" = some (.ref (A 32))
  F_most : L2.Fun K "_law_most" "_law_most" s_most (A 33) (F 33)
  b_most : Binds K (F 33) P_most []
  g_most : mg "_law_most" = some (.ref (A 33))
  F_two_rows : L2.Fun K "_law_two_rows" "_law_two_rows" s_two_rows (A 34) (F 34)
  b_two_rows : Binds K (F 34) P_two_rows []
  g_two_rows : mg "_law_two_rows" = some (.ref (A 34))
  F_row_good : L2.Fun K "_law_row_good" "_law_row_good" s_row_good (A 35) (F 35)
  b_row_good : Binds K (F 35) P_row_good []
  g_row_good : mg "_law_row_good" = some (.ref (A 35))
  F_plan_good : L2.Fun K "_law_plan_good" "_law_plan_good" s_plan_good (A 36) (F 36)
  b_plan_good : Binds K (F 36) P_plan_good []
  g_plan_good : mg "_law_plan_good" = some (.ref (A 36))
  F_spoilt_row : L2.Fun K "_law_spoilt_row" "_law_spoilt_row" s_spoilt_row (A 37) (F 37)
  b_spoilt_row : Binds K (F 37) P_spoilt_row []
  g_spoilt_row : mg "_law_spoilt_row" = some (.ref (A 37))
  F_may_spoil : L2.Fun K "_law_may_spoil" "_law_may_spoil" s_may_spoil (A 38) (F 38)
  b_may_spoil : Binds K (F 38) P_may_spoil []
  g_may_spoil : mg "_law_may_spoil" = some (.ref (A 38))
  F_spoilt : L2.Fun K "_law_spoilt" "_law_spoilt" s_spoilt (A 39) (F 39)
  b_spoilt : Binds K (F 39) P_spoilt []
  g_spoilt : mg "_law_spoilt" = some (.ref (A 39))
  F_law : L2.Fun K "law" "law" s_law (A 40) (F 40)
  b_law : Binds K (F 40) P_law []
  g_law : mg "law" = some (.ref (A 40))
  z_all : mg "all" = none
  z_bool : mg "bool" = none
  z_int : mg "int" = none
  z_isinstance : mg "isinstance" = none
  z_len : mg "len" = none
  z_list : mg "list" = none
  z_max : mg "max" = none
  z_min : mg "min" = none
  z_range : mg "range" = none
  z_repr : mg "repr" = none
  z_str : mg "str" = none
  z_tuple : mg "tuple" = none
  z_zip : mg "zip" = none
  d_FITS : ∀ {X : Cx} {E : XK} {p : Pos}, Gl X "FITS" → X.mg = mg → EV X E (.Name "FITS" p) (mC (.gl "FITS"))
  tab_FITS : ∀ {X : Cx}, X.mg = mg → X.K = K → X.w = wd → TabX X "FITS" tab_FITS
  c_GREATEST : ∃ t, mg "GREATEST" = some (.int (999999999999999999999999999999) t)
  c_LETTERS : ∃ t, mg "LETTERS" = some (.str "abcdefghijklmnopqrstuvwxyz" t)
  c_LONGEST : ∃ t, mg "LONGEST" = some (.int (6) t)
  e_MANNERS : ∀ {X : Cx} {E : XK} {p : Pos}, Gl X "MANNERS" → X.mg = mg → X.K = K → EV X E (.Name "MANNERS" p) (mC (.tup [.str "floor", .str "ceil", .str "near"]))
  c_MOST_MOST : ∃ t, mg "MOST_MOST" = some (.int (64) t)
  c_MOST_ROUND : ∃ t, mg "MOST_ROUND" = some (.int (20) t)
  c_MOST_ROWS : ∃ t, mg "MOST_ROWS" = some (.int (12) t)
  c_MOST_TERMS : ∃ t, mg "MOST_TERMS" = some (.int (100) t)
  d_SHAPES : ∀ {X : Cx} {E : XK} {p : Pos}, Gl X "SHAPES" → X.mg = mg → EV X E (.Name "SHAPES" p) (mC (.gl "SHAPES"))
  tab_SHAPES : ∀ {X : Cx}, X.mg = mg → X.K = K → X.w = wd → TabX X "SHAPES" tab_SHAPES
end G_k74

set_option Elab.async false
set_option linter.all false
set_option maxRecDepth 100000
set_option maxHeartbeats 4000000
set_option exponentiation.threshold 20000
namespace G_k74
open PySem PySem.Spec PyProof.Rows L2 FL
section
variable {P : Program} {w : World} {K : PySem.W.Frag} {mg : Str → Option Value} {base : Heap} {A : Nat → Addr} {F : Nat → FuncData}
theorem ok_purse (T : Tops K w mg A F) (hS : SysN base) : FnG P w K mg base CX0 1 (A 19) (F 19) P_purse (spF K mg 1 f_purse) :=
  def_ok T.F_purse sc_purse (by decide) fun cdv A0 outer s H E hr =>
    (sv_one (sv_ret (ev_aL (ef_lst (av_cons (ev_callB (call_max2 rfl) b_max2 (by rfl) T.z_max (by decide +kernel) (av_cons ev_int (av_cons (ev_sub (ev_var 0 (pv 0)) (ev_pow ev_int ev_int)) av_nil))) (av_cons (ev_mod (ev_var 0 (pv 0)) ev_int) (av_cons ev_int av_nil)))))))
theorem ok_cell (T : Tops K w mg A F) (hS : SysN base) : FnG P w K mg base CX0 1 (A 18) (F 18) P_cell (spF K mg 2 f_cell) :=
  def_ok T.F_cell sc_cell (by decide) fun cdv A0 outer s H E hr =>
    (sv_cons (sv_if (bv_cmp op_lt c_lt (ev_var 1 (pv 1)) (ev_callB call_len b_len (by rfl) T.z_len (by decide +kernel) (av_cons (ev_var 0 (pv 0)) av_nil)) (nomark _))
     (sv_one (sv_ret (ev_ix (ev_var 0 (pv 0)) (ev_var 1 (pv 1)))))
     sv_nil)
    (sv_one (sv_ret (ev_add (ev_mul ev_int (ev_var 1 (pv 1))) ev_int))))
theorem ok_take (T : Tops K w mg A F) (hS : SysN base) : FnG P w K mg base CX0 1 (A 20) (F 20) P_take (spF K mg 2 f_take) :=
  def_ok T.F_take sc_take (by decide) fun cdv A0 outer s H E hr =>
    (sv_cons (sv_if (bv_cmp op_gt c_gt (ev_ix (ev_var 0 (pv 0)) ev_int) ev_int (nomark _))
     (sv_cons (sv_set 4 sc_take.nd rfl (.inl rfl) (ev_mod (ev_ix (ev_var 0 (pv 0)) ev_int) (ev_var 1 (pv 1))))
     (sv_cons (sv_setIx (ev_fdiv (ev_ix (ev_var 0 (pv 0)) ev_int) (ev_var 1 (pv 1))) (ev_var 0 (pv 0)) ev_int)
     (sv_one (sv_ret (ev_var 4 (pv 4))))))
     sv_nil)
    (sv_cons (sv_setIx (ev_add (ev_ix (ev_var 0 (pv 0)) ev_int) ev_int) (ev_var 0 (pv 0)) ev_int)
    (sv_cons (sv_set 2 sc_take.nd rfl (.inl rfl) (ev_mod (ev_pow (ev_add (ev_add (ev_ix (ev_var 0 (pv 0)) ev_int) (ev_mul ev_int (ev_ix (ev_var 0 (pv 0)) ev_int))) ev_int) ev_int) ev_int))
    (sv_cons (sv_set 3 sc_take.nd rfl (.inl rfl) (ev_mod (ev_pow (ev_add (ev_mul (ev_ix (ev_var 0 (pv 0)) ev_int) (ev_ix (ev_var 0 (pv 0)) ev_int)) ev_int) ev_int) ev_int))
    (sv_one (sv_ret (ev_mod (ev_fdiv (ev_add (ev_var 2 (pv 2)) (ev_mul ev_int (ev_var 3 (pv 3)))) ev_int) (ev_var 1 (pv 1)))))))))
theorem ok_names (T : Tops K w mg A F) (hS : SysN base) : FnG P w K mg base CX0 2 (A 21) (F 21) P_names (spF K mg 2 f_names) :=
  def_ok T.F_names sc_names (by decide) fun cdv A0 outer s H E hr =>
    (sv_cons (sv_set 2 sc_names.nd rfl (.inr rfl) ev_str)
    (sv_cons (sv_set 3 sc_names.nd rfl (.inl rfl) (ev_call (ps := P_take) ((ok_take T hS).mono (by decide)) hr (by rfl) T.g_take T.F_take.kp T.b_take .nil (fun _ _ => Reps.nil) pass_ (av_cons (ev_var 0 (pv 0)) (av_cons ev_int av_nil))))
    (sv_cons (sv_set 4 sc_names.nd rfl (.inr rfl) (ev_call (ps := P_take) ((ok_take T hS).mono (by decide)) hr (by rfl) T.g_take T.F_take.kp T.b_take .nil (fun _ _ => Reps.nil) pass_ (av_cons (ev_var 0 (pv 0)) (av_cons ev_int av_nil))))
    (sv_cons (sv_set 5 sc_names.nd rfl (.inr rfl) (ev_ix (ev_vL (ef_lst (av_cons ev_int (av_cons ev_int (av_cons ev_int (av_cons ev_int av_nil)))))) (ev_call (ps := P_take) ((ok_take T hS).mono (by decide)) hr (by rfl) T.g_take T.F_take.kp T.b_take .nil (fun _ _ => Reps.nil) pass_ (av_cons (ev_var 0 (pv 0)) (av_cons ev_int av_nil)))))
    (sv_cons (sv_if (bv_cmp (op_eqA hr.u64) c_eq (ev_var 3 (pv 3)) ev_int (nomark _))
     (sv_cons (sv_set 10 sc_names.nd rfl (.inr rfl) (ev_vL (ef_lst (av_cons ev_str (av_cons ev_str (av_cons ev_str (av_cons ev_str (av_cons ev_str (av_cons ev_str (av_cons ev_str (av_cons ev_str (av_cons ev_str (av_cons ev_str (av_cons ev_str (av_cons ev_str av_nil)))))))))))))))
     (sv_one (sv_ret (ev_vL (ef_comp (own := [("_law_k", 9)]) rfl sc_names.nd (iv_range1 (by rfl) T.z_range (ev_var 1 (pv 1))) (blkOk_by (own := [("_law_k", 9)]) (N := N_names) (sc := defScope s_names) (by decide +kernel)) (fun _ _ _ _ _ => (gv_nm 9 sc_names.nd rfl (.inl rfl))) (fun _ _ _ _ _ => tv_nil) (fun _ _ _ _ _ => (ev_ix (ev_var 10 (pv 10)) (ev_mod (ev_add (ev_var 4 (pv 4)) (ev_mul (ev_var 5 (pv 5)) (ev_var 9 (pv 9)))) ev_int))))))))
     sv_nil)
    (sv_cons (sv_ownLc2 (own := [("_law_k", 9)]) 6 rfl sc_names.nd rfl rfl rfl (iv_range1 (by rfl) T.z_range (ev_call (ps := P_take) ((ok_take T hS).mono (by decide)) hr (by rfl) T.g_take T.F_take.kp T.b_take .nil (fun _ _ => Reps.nil) pass_ (av_cons (ev_var 0 (pv 0)) (av_cons ev_int av_nil)))) (blkOk_by (own := [("_law_k", 9)]) (N := N_names) (sc := defScope s_names) (by decide +kernel)) (fun _ _ _ _ _ => (gv_nm 9 sc_names.nd rfl (.inl rfl))) (fun _ _ _ _ _ => tv_nil) (fun _ _ _ _ _ => (ev_ix (ev_var 2 (pv 2)) (ev_call (ps := P_take) ((ok_take T hS).mono (by decide)) hr (by rfl) T.g_take T.F_take.kp T.b_take .nil (fun _ _ => Reps.nil) pass_ (av_cons (ev_var 0 (pv 0)) (av_cons ev_int av_nil))))))
    (sv_cons (sv_set 7 sc_names.nd rfl (.inl rfl) (ev_call (ps := P_take) ((ok_take T hS).mono (by decide)) hr (by rfl) T.g_take T.F_take.kp T.b_take .nil (fun _ _ => Reps.nil) pass_ (av_cons (ev_var 0 (pv 0)) (av_cons (ev_add (ev_callB call_len b_len (by rfl) T.z_len (by decide +kernel) (av_cons (ev_var 6 (pv 6)) av_nil)) ev_int) av_nil))))
    (sv_cons (sv_par 11 12 rfl sc_names.nd rfl rfl (by decide) rfl rfl (av_cons (ev_join ev_str (ev_slice (ev_var 6 (pv 6)) ov_none (ov_some (ev_var 7 (pv 7))))) (av_cons (ev_join ev_str (ev_slice (ev_var 6 (pv 6)) (ov_some (ev_var 7 (pv 7))) ov_none)) av_nil)))
    (sv_cons (sv_own 8 sc_names.nd rfl (.inl rfl) (ef_lst av_nil))
    (sv_cons (sv_for PassesOwn.never rfl (iv_range1 (by rfl) T.z_range (ev_var 1 (pv 1))) (gv_nm 9 sc_names.nd rfl (.inl rfl))
     (sv_cons (sv_set 13 sc_names.nd rfl (.inl rfl) (ev_add (ev_add (ev_var 11 (pv 11)) (ev_ix (ev_var 2 (pv 2)) (ev_mod (ev_add (ev_var 4 (pv 4)) (ev_mul (ev_var 5 (pv 5)) (ev_var 9 (pv 9)))) ev_int))) (ev_var 12 (pv 12))))
     (sv_one (sv_app 8 (pe_bm PySem.F.plainAttrs_list PySem.F.slot_list_append PySem.F.type_list_append mt_append (pv 8) (pa_cons (ev_if (bv_cmp (op_eqA hr.u64) c_eq (ev_var 3 (pv 3)) ev_int (nomark _)) (ev_add (ev_var 13 (pv 13)) (ev_mul (ev_ix (ev_var 2 (pv 2)) (ev_var 4 (pv 4))) (ev_mod (ev_var 9 (pv 9)) ev_int))) (ev_var 13 (pv 13))) pa_nil))))))
    (sv_one (sv_ret (ev_frz 8 (pv 8))))))))))))))
theorem ok_legal (T : Tops K w mg A F) (hS : SysN base) : FnG P w K mg base CX0 2 (A 22) (F 22) P_legal (spF K mg 2 f_legal) :=
  def_ok T.F_legal sc_legal (by decide) fun cdv A0 outer s H E hr =>
    (sv_cons (sv_set 2 sc_legal.nd rfl (.inl rfl) (ev_dget hr.u1 (ev_dict (dv_cons (ev_vL (ef_lst (av_cons ev_int (av_cons ev_int (av_cons ev_int (av_cons ev_int (av_cons ev_int av_nil))))))) (dv_cons (ev_vL (ef_lst (av_cons ev_int (av_cons ev_int (av_cons ev_int (av_cons ev_int (av_cons ev_int av_nil))))))) (dv_cons (ev_vL (ef_lst (av_cons ev_int (av_cons ev_int (av_cons ev_int (av_cons ev_int (av_cons ev_int av_nil))))))) dv_nil))) (by decide) (by simp) (by decide)) (ev_var 1 (pv 1)) (fun _ _ => rfl)))
    (sv_cons (sv_own 3 sc_legal.nd rfl (.inl rfl) (ef_lst (av_cons (ev_sub (ev_call (ps := P_take) ((ok_take T hS).mono (by decide)) hr (by rfl) T.g_take T.F_take.kp T.b_take .nil (fun _ _ => Reps.nil) pass_ (av_cons (ev_var 0 (pv 0)) (av_cons ev_int av_nil))) ev_int) av_nil)))
    (sv_cons (sv_for PassesOwn.never rfl (iv_range1 (by rfl) T.z_range (ev_call (ps := P_take) ((ok_take T hS).mono (by decide)) hr (by rfl) T.g_take T.F_take.kp T.b_take .nil (fun _ _ => Reps.nil) pass_ (av_cons (ev_var 0 (pv 0)) (av_cons (ev_ix (ev_vL (ef_lst (av_cons ev_int (av_cons ev_int av_nil)))) (ev_callT call_int1 b_int (by rfl) T.z_int (by decide +kernel) (av_cons (ev_cmp (op_eqA hr.u64) c_eq (ev_call (ps := P_take) ((ok_take T hS).mono (by decide)) hr (by rfl) T.g_take T.F_take.kp T.b_take .nil (fun _ _ => Reps.nil) pass_ (av_cons (ev_var 0 (pv 0)) (av_cons ev_int av_nil))) ev_int (nomark _)) av_nil))) av_nil)))) (gv_nm 4 sc_legal.nd rfl (.inl rfl))
     (sv_cons (sv_set 5 sc_legal.nd rfl (.inl rfl) (ev_ix (ev_var 2 (pv 2)) (ev_call (ps := P_take) ((ok_take T hS).mono (by decide)) hr (by rfl) T.g_take T.F_take.kp T.b_take .nil (fun _ _ => Reps.nil) pass_ (av_cons (ev_var 0 (pv 0)) (av_cons ev_int av_nil)))))
     (sv_one (sv_app 3 (pe_bm PySem.F.plainAttrs_list PySem.F.slot_list_append PySem.F.type_list_append mt_append (pv 3) (pa_cons (ev_mul (ev_var 5 (pv 5)) (ev_sub ev_int (ev_mul ev_int (ev_callT call_int1 b_int (by rfl) T.z_int (by decide +kernel) (av_cons (ev_and (ev_cmp (op_eqA hr.u64) c_eq (ev_var 1 (pv 1)) ev_str (nomark _)) (ev_bo1 (ev_cmp (op_eqA hr.u64) c_eq (ev_call (ps := P_take) ((ok_take T hS).mono (by decide)) hr (by rfl) T.g_take T.F_take.kp T.b_take .nil (fun _ _ => Reps.nil) pass_ (av_cons (ev_var 0 (pv 0)) (av_cons ev_int av_nil))) ev_int (nomark _)))) av_nil))))) pa_nil))))))
    (sv_cons (sv_if (L2.PW.pt (bw_and (bv_cmp op_gt c_gt (ev_callB call_len b_len (by rfl) T.z_len (by decide +kernel) (av_cons (ev_var 3 (pv 3)) av_nil)) ev_int (nomark _)) (bw_one_and (bv_cmp (op_eqA hr.u64) c_eq (ev_ix (ev_var 3 (pv 3)) (ev_neg ev_int)) ev_int (nomark _)))))
     (sv_one (sv_setIx ev_int (ev_var 3 (pv 3)) (ev_neg ev_int)))
     sv_nil)
    (sv_one (sv_ret (ev_callT call_tuple_of b_tuple (by rfl) T.z_tuple (by decide +kernel) (av_cons (ev_var 3 (pv 3)) av_nil))))))))
theorem ok_source (T : Tops K w mg A F) (hS : SysN base) : FnG P w K mg base CX0 3 (A 23) (F 23) P_source (spF K mg 2 f_source) :=
  def_ok T.F_source sc_source (by decide) fun cdv A0 outer s H E hr =>
    (sv_cons (sv_set 2 sc_source.nd rfl (.inl rfl) (ev_ix (ev_vL (ef_lst (av_cons ev_str (av_cons ev_str (av_cons ev_str (av_cons ev_str av_nil)))))) (ev_call (ps := P_take) ((ok_take T hS).mono (by decide)) hr (by rfl) T.g_take T.F_take.kp T.b_take .nil (fun _ _ => Reps.nil) pass_ (av_cons (ev_var 0 (pv 0)) (av_cons ev_int av_nil)))))
    (sv_cons (sv_set 3 sc_source.nd rfl (.inl rfl) (ev_call (ps := P_take) ((ok_take T hS).mono (by decide)) hr (by rfl) T.g_take T.F_take.kp T.b_take .nil (fun _ _ => Reps.nil) pass_ (av_cons (ev_var 0 (pv 0)) (av_cons ev_int av_nil))))
    (sv_cons (sv_if (bv_cmp op_lt c_lt (ev_var 3 (pv 3)) ev_int (nomark _))
     (sv_one (sv_ret (ev_tup (av_cons ev_str (av_cons (ev_var 1 (pv 1)) (av_cons (ev_var 2 (pv 2)) (av_cons (ev_call (ps := P_legal) ((ok_legal T hS).mono (by decide)) hr (by rfl) T.g_legal T.F_legal.kp T.b_legal .nil (fun _ _ => Reps.nil) pass_ (av_cons (ev_var 0 (pv 0)) (av_cons (ev_var 2 (pv 2)) av_nil))) av_nil)))))))
     sv_nil)
    (sv_cons (sv_if (bv_cmp (op_eqA hr.u64) c_eq (ev_var 3 (pv 3)) ev_int (nomark _))
     (sv_cons (sv_set 4 sc_source.nd rfl (.inl rfl) (ev_callT call_tuple_of b_tuple (by rfl) T.z_tuple (by decide +kernel) (av_cons (ev_vL (ef_comp (own := [("_law_k", 6)]) rfl sc_source.nd (iv_range1 (by rfl) T.z_range (ev_add ev_int (ev_call (ps := P_take) ((ok_take T hS).mono (by decide)) hr (by rfl) T.g_take T.F_take.kp T.b_take .nil (fun _ _ => Reps.nil) pass_ (av_cons (ev_var 0 (pv 0)) (av_cons ev_int av_nil))))) (blkOk_by (own := [("_law_k", 6)]) (N := N_source) (sc := defScope s_source) (by decide +kernel)) (fun _ _ _ _ _ => (gv_nm 6 sc_source.nd rfl (.inl rfl))) (fun _ _ _ _ _ => tv_nil) (fun _ _ _ _ _ => (ev_add ev_int (ev_call (ps := P_take) ((ok_take T hS).mono (by decide)) hr (by rfl) T.g_take T.F_take.kp T.b_take .nil (fun _ _ => Reps.nil) pass_ (av_cons (ev_var 0 (pv 0)) (av_cons ev_int av_nil))))))) av_nil)))
     (sv_cons (sv_set 5 sc_source.nd rfl (.inl rfl) (ev_callT call_tuple_of b_tuple (by rfl) T.z_tuple (by decide +kernel) (av_cons (ev_vL (ef_comp (own := [("_law_term", 7)]) rfl sc_source.nd (iv_seq (ev_var 4 (pv 4))) (blkOk_by (own := [("_law_term", 7)]) (N := N_source) (sc := defScope s_source) (by decide +kernel)) (fun _ _ _ _ _ => (gv_nm 7 sc_source.nd rfl (.inl rfl))) (fun _ _ _ _ _ => tv_nil) (fun _ _ _ _ _ => (ev_call (ps := P_take) ((ok_take T hS).mono (by decide)) hr (by rfl) T.g_take T.F_take.kp T.b_take .nil (fun _ _ => Reps.nil) pass_ (av_cons (ev_var 0 (pv 0)) (av_cons ev_int av_nil)))))) av_nil)))
     (sv_one (sv_ret (ev_tup (av_cons ev_str (av_cons (ev_var 1 (pv 1)) (av_cons (ev_var 2 (pv 2)) (av_cons (ev_tup (av_cons (ev_sub (ev_call (ps := P_take) ((ok_take T hS).mono (by decide)) hr (by rfl) T.g_take T.F_take.kp T.b_take .nil (fun _ _ => Reps.nil) pass_ (av_cons (ev_var 0 (pv 0)) (av_cons ev_int av_nil))) ev_int) av_nil)) (av_cons (ev_var 4 (pv 4)) (av_cons (ev_ix (ev_vL (ef_lst (av_cons ev_non (av_cons (ev_var 5 (pv 5)) av_nil)))) (ev_call (ps := P_take) ((ok_take T hS).mono (by decide)) hr (by rfl) T.g_take T.F_take.kp T.b_take .nil (fun _ _ => Reps.nil) pass_ (av_cons (ev_var 0 (pv 0)) (av_cons ev_int av_nil)))) av_nil)))))))))))
     sv_nil)
    (sv_cons (sv_if (bv_cmp (op_eqA hr.u64) c_eq (ev_var 3 (pv 3)) ev_int (nomark _))
     (sv_one (sv_ret (ev_tup (av_cons ev_str (av_cons (ev_var 1 (pv 1)) (av_cons (ev_var 2 (pv 2)) av_nil))))))
     sv_nil)
    (sv_one (sv_ret (ev_tup (av_cons ev_str (av_cons (ev_var 1 (pv 1)) (av_cons (ev_sub (ev_call (ps := P_take) ((ok_take T hS).mono (by decide)) hr (by rfl) T.g_take T.F_take.kp T.b_take .nil (fun _ _ => Reps.nil) pass_ (av_cons (ev_var 0 (pv 0)) (av_cons ev_int av_nil))) ev_int) (av_cons (ev_call (ps := P_take) ((ok_take T hS).mono (by decide)) hr (by rfl) T.g_take T.F_take.kp T.b_take .nil (fun _ _ => Reps.nil) pass_ (av_cons (ev_var 0 (pv 0)) (av_cons ev_int av_nil))) (av_cons (ev_ix (ev_vL (ef_lst (av_cons ev_int (av_cons ev_int (av_cons (ev_sub ev_int ev_int) (av_cons ev_int av_nil)))))) (ev_call (ps := P_take) ((ok_take T hS).mono (by decide)) hr (by rfl) T.g_take T.F_take.kp T.b_take .nil (fun _ _ => Reps.nil) pass_ (av_cons (ev_var 0 (pv 0)) (av_cons ev_int av_nil)))) av_nil)))))))))))))
theorem ok_eight (T : Tops K w mg A F) (hS : SysN base) : FnG P w K mg base CX0 2 (A 25) (F 25) P_eight (spF K mg 1 f_eight) :=
  def_ok T.F_eight sc_eight (by decide) fun cdv A0 outer s H E hr =>
    (sv_cons (sv_set 1 sc_eight.nd rfl (.inl rfl) (ev_vL (ef_lst (av_cons (ev_tup (av_cons (ev_tup (av_cons ev_int (av_cons ev_int (av_cons ev_int (av_cons ev_int av_nil))))) (av_cons (ev_tup (av_cons ev_int (av_cons ev_int (av_cons ev_int (av_cons ev_int av_nil))))) av_nil))) (av_cons (ev_tup (av_cons (ev_tup (av_cons ev_int (av_cons ev_int (av_cons (ev_sub ev_int ev_int) (av_cons ev_int av_nil))))) (av_cons (ev_tup (av_cons ev_int (av_cons ev_int (av_cons ev_int (av_cons ev_int av_nil))))) av_nil))) (av_cons (ev_tup (av_cons (ev_tup (av_cons ev_int (av_cons ev_int (av_cons ev_int (av_cons ev_int av_nil))))) (av_cons (ev_tup (av_cons ev_int (av_cons ev_int (av_cons ev_int (av_cons ev_int av_nil))))) av_nil))) av_nil))))))
    (sv_cons (sv_set 1 sc_eight.nd rfl (.inl rfl) (ev_add (ev_var 1 (pv 1)) (ev_vL (ef_lst (av_cons (ev_tup (av_cons (ev_tup (av_cons ev_int (av_cons ev_int (av_cons ev_int (av_cons ev_int av_nil))))) (av_cons (ev_tup (av_cons ev_int (av_cons ev_int (av_cons ev_int (av_cons ev_int av_nil))))) av_nil))) (av_cons (ev_tup (av_cons (ev_tup (av_cons ev_int (av_cons ev_int (av_cons ev_int (av_cons ev_int av_nil))))) (av_cons (ev_tup (av_cons ev_int (av_cons ev_int (av_cons ev_int (av_cons ev_int av_nil))))) av_nil))) (av_cons (ev_tup (av_cons (ev_tup (av_cons ev_int (av_cons ev_int (av_cons ev_int (av_cons ev_int av_nil))))) (av_cons (ev_tup (av_cons ev_int (av_cons ev_int (av_cons ev_int (av_cons ev_int av_nil))))) av_nil))) av_nil)))))))
    (sv_one (sv_ret (ev_ix (ev_var 1 (pv 1)) (ev_call (ps := P_take) ((ok_take T hS).mono (by decide)) hr (by rfl) T.g_take T.F_take.kp T.b_take .nil (fun _ _ => Reps.nil) pass_ (av_cons (ev_var 0 (pv 0)) (av_cons ev_int av_nil))))))))
theorem ok_four (T : Tops K w mg A F) (hS : SysN base) : FnG P w K mg base CX0 2 (A 24) (F 24) P_four (spF K mg 1 f_four) :=
  def_ok T.F_four sc_four (by decide) fun cdv A0 outer s H E hr =>
    (sv_cons (sv_asg (ev_vL (ef_comp (own := [("_law_k", 5)]) rfl sc_four.nd (iv_range1 (by rfl) T.z_range ev_int) (blkOk_by (own := [("_law_k", 5)]) (N := N_four) (sc := defScope s_four) (by decide +kernel)) (fun _ _ _ _ _ => (gv_nm 5 sc_four.nd rfl (.inl rfl))) (fun _ _ _ _ _ => tv_nil) (fun _ _ _ _ _ => (ev_sub (ev_call (ps := P_take) ((ok_take T hS).mono (by decide)) hr (by rfl) T.g_take T.F_take.kp T.b_take .nil (fun _ _ => Reps.nil) pass_ (av_cons (ev_var 0 (pv 0)) (av_cons ev_int av_nil))) ev_int)))) (gv_ls rfl (gvs_cons (gv_nm 1 sc_four.nd rfl (.inl rfl)) (gvs_cons (gv_nm 2 sc_four.nd rfl (.inl rfl)) (gvs_cons (gv_nm 3 sc_four.nd rfl (.inl rfl)) (gvs_cons (gv_nm 4 sc_four.nd rfl (.inl rfl)) gvs_nil)))) (takes_cons (takes_cons (takes_cons (takes_cons takes_nil))))))
    (sv_one (sv_ret (ev_if (bv_cmp (op_neA hr.u64) c_ne (ev_mul (ev_var 1 (pv 1)) (ev_var 4 (pv 4))) (ev_mul (ev_var 2 (pv 2)) (ev_var 3 (pv 3))) (nomark _)) (ev_tup (av_cons (ev_tup (av_cons (ev_var 1 (pv 1)) (av_cons (ev_var 2 (pv 2)) av_nil))) (av_cons (ev_tup (av_cons (ev_var 3 (pv 3)) (av_cons (ev_var 4 (pv 4)) av_nil))) av_nil))) (ev_tup (av_cons (ev_tup (av_cons ev_int (av_cons ev_int av_nil))) (av_cons (ev_tup (av_cons ev_int (av_cons ev_int av_nil))) av_nil)))))))
theorem ok_machine (T : Tops K w mg A F) (hS : SysN base) : FnG P w K mg base CX0 3 (A 26) (F 26) P_machine (spF K mg 3 f_machine) :=
  def_ok T.F_machine sc_machine (by decide) fun cdv A0 outer s H E hr =>
    (sv_cons (sv_set 3 sc_machine.nd rfl (.inl rfl) (ev_ix (ev_var 2 (pv 2)) (ev_call (ps := P_take) ((ok_take T hS).mono (by decide)) hr (by rfl) T.g_take T.F_take.kp T.b_take .nil (fun _ _ => Reps.nil) pass_ (av_cons (ev_var 0 (pv 0)) (av_cons (ev_callB call_len b_len (by rfl) T.z_len (by decide +kernel) (av_cons (ev_var 2 (pv 2)) av_nil)) av_nil)))))
    (sv_cons (sv_set 4 sc_machine.nd rfl (.inl rfl) (ev_ix (ev_var 2 (pv 2)) (ev_call (ps := P_take) ((ok_take T hS).mono (by decide)) hr (by rfl) T.g_take T.F_take.kp T.b_take .nil (fun _ _ => Reps.nil) pass_ (av_cons (ev_var 0 (pv 0)) (av_cons (ev_callB call_len b_len (by rfl) T.z_len (by decide +kernel) (av_cons (ev_var 2 (pv 2)) av_nil)) av_nil)))))
    (sv_cons (sv_set 5 sc_machine.nd rfl (.inl rfl) (ev_ix (ev_vL (ef_lst (av_cons ev_str (av_cons ev_str (av_cons ev_str (av_cons ev_str av_nil)))))) (ev_call (ps := P_take) ((ok_take T hS).mono (by decide)) hr (by rfl) T.g_take T.F_take.kp T.b_take .nil (fun _ _ => Reps.nil) pass_ (av_cons (ev_var 0 (pv 0)) (av_cons ev_int av_nil)))))
    (sv_cons (sv_set 6 sc_machine.nd rfl (.inl rfl) (ev_ix (ev_vL (ef_lst (av_cons ev_int (av_cons ev_int (av_cons ev_int (av_cons (ev_add ev_int (ev_call (ps := P_take) ((ok_take T hS).mono (by decide)) hr (by rfl) T.g_take T.F_take.kp T.b_take .nil (fun _ _ => Reps.nil) pass_ (av_cons (ev_var 0 (pv 0)) (av_cons ev_int av_nil)))) av_nil)))))) (ev_call (ps := P_take) ((ok_take T hS).mono (by decide)) hr (by rfl) T.g_take T.F_take.kp T.b_take .nil (fun _ _ => Reps.nil) pass_ (av_cons (ev_var 0 (pv 0)) (av_cons ev_int av_nil)))))
    (sv_cons (sv_set 7 sc_machine.nd rfl (.inl rfl) (ev_call (ps := P_take) ((ok_take T hS).mono (by decide)) hr (by rfl) T.g_take T.F_take.kp T.b_take .nil (fun _ _ => Reps.nil) pass_ (av_cons (ev_var 0 (pv 0)) (av_cons ev_int av_nil))))
    (sv_cons (sv_if (bv_cmp (op_eqA hr.u64) c_eq (ev_var 7 (pv 7)) ev_int (nomark _))
     (sv_one (sv_ret (ev_tup (av_cons (ev_tup (av_cons ev_str (av_cons (ev_var 1 (pv 1)) (av_cons (ev_ix (ev_var 3 (pv 3)) ev_int) (av_cons (ev_var 6 (pv 6)) av_nil))))) (av_cons (ev_add (ev_ix (ev_var 3 (pv 3)) ev_int) ev_int) av_nil)))))
     sv_nil)
    (sv_cons (sv_if (bv_cmp (op_eqA hr.u64) c_eq (ev_var 7 (pv 7)) ev_int (nomark _))
     (sv_one (sv_ret (ev_tup (av_cons (ev_tup (av_cons ev_str (av_cons (ev_var 1 (pv 1)) (av_cons (ev_ix (ev_var 3 (pv 3)) ev_int) (av_cons (ev_ix (ev_var 4 (pv 4)) ev_int) (av_cons (ev_var 5 (pv 5)) (av_cons (ev_var 6 (pv 6)) (av_cons (ev_call (ps := P_eight) ((ok_eight T hS).mono (by decide)) hr (by rfl) T.g_eight T.F_eight.kp T.b_eight .nil (fun _ _ => Reps.nil) pass_ (av_cons (ev_var 0 (pv 0)) av_nil)) av_nil)))))))) (av_cons (ev_add (ev_callB (call_max2 rfl) b_max2 (by rfl) T.z_max (by decide +kernel) (av_cons (ev_ix (ev_var 3 (pv 3)) ev_int) (av_cons (ev_ix (ev_var 4 (pv 4)) ev_int) av_nil))) ev_int) av_nil)))))
     sv_nil)
    (sv_one (sv_ret (ev_tup (av_cons (ev_tup (av_cons ev_str (av_cons (ev_var 1 (pv 1)) (av_cons (ev_ix (ev_var 3 (pv 3)) ev_int) (av_cons (ev_var 5 (pv 5)) (av_cons (ev_var 6 (pv 6)) (av_cons (ev_call (ps := P_four) ((ok_four T hS).mono (by decide)) hr (by rfl) T.g_four T.F_four.kp T.b_four .nil (fun _ _ => Reps.nil) pass_ (av_cons (ev_var 0 (pv 0)) av_nil)) av_nil))))))) (av_cons (ev_add (ev_ix (ev_var 3 (pv 3)) ev_int) ev_int) av_nil))))))))))))
theorem ok_plan (T : Tops K w mg A F) (hS : SysN base) : FnG P w K mg base CX0 4 (A 27) (F 27) P_plan (spF K mg 2 f_plan) :=
  def_ok T.F_plan sc_plan (by decide) fun cdv A0 outer s H E hr =>
    (sv_cons (sv_par0 3 4 rfl sc_plan.nd rfl rfl (by decide) rfl rfl)
    (sv_cons (sv_for PassesOwn.never rfl (iv_seq (ev_call (ps := P_names) ((ok_names T hS).mono (by decide)) hr (by rfl) T.g_names T.F_names.kp T.b_names .nil (fun _ _ => Reps.nil) pass_ (av_cons (ev_var 0 (pv 0)) (av_cons (ev_var 1 (pv 1)) av_nil)))) (gv_nm 2 sc_plan.nd rfl (.inl rfl))
     (sv_cons (sv_ownLcO2 (own := [("_law_pair", 6)]) 4 5 rfl sc_plan.nd rfl rfl rfl (pv 4) (blkOk_by (own := [("_law_pair", 6)]) (N := N_plan) (sc := defScope s_plan) (by decide +kernel)) (fun _ _ _ _ _ => (gv_nm 6 sc_plan.nd rfl (.inl rfl))) (fun _ _ _ _ _ => (tv_one (bv_cmp op_lt c_lt (ev_ix (ev_var 6 (pv 6)) ev_int) ev_int (nomark _)))) (fun _ _ _ _ _ => (ev_var 6 (pv 6))))
     (sv_one (sv_if (L2.PW.pt (bw_or (bv_cmp (op_eqA hr.u64) c_eq (ev_var 5 (pv 5)) (ev_vL (ef_lst av_nil)) (nomark _)) (bw_one_or (bv_cmp (op_eqA hr.u64) c_eq (ev_call (ps := P_take) ((ok_take T hS).mono (by decide)) hr (by rfl) T.g_take T.F_take.kp T.b_take .nil (fun _ _ => Reps.nil) pass_ (av_cons (ev_var 0 (pv 0)) (av_cons ev_int av_nil))) ev_int (nomark _)))))
      (sv_cons (sv_app 3 (pe_bm PySem.F.plainAttrs_list PySem.F.slot_list_append PySem.F.type_list_append mt_append (pv 3) (pa_cons (ev_call (ps := P_source) ((ok_source T hS).mono (by decide)) hr (by rfl) T.g_source T.F_source.kp T.b_source .nil (fun _ _ => Reps.nil) pass_ (av_cons (ev_var 0 (pv 0)) (av_cons (ev_var 2 (pv 2)) av_nil))) pa_nil)))
      (sv_one (sv_app 4 (pe_bm PySem.F.plainAttrs_list PySem.F.slot_list_append PySem.F.type_list_append mt_append (pv 4) (pa_cons (ev_tup (av_cons (ev_var 2 (pv 2)) (av_cons ev_int av_nil))) pa_nil)))))
      (sv_cons (sv_asg (ev_call (ps := P_machine) ((ok_machine T hS).mono (by decide)) hr (by rfl) T.g_machine T.F_machine.kp T.b_machine .nil (fun _ _ => Reps.nil) pass_ (av_cons (ev_var 0 (pv 0)) (av_cons (ev_var 2 (pv 2)) (av_cons (ev_var 5 (pv 5)) av_nil)))) (gv_tp rfl (gvs_cons (gv_nm 7 sc_plan.nd rfl (.inl rfl)) (gvs_cons (gv_nm 8 sc_plan.nd rfl (.inl rfl)) gvs_nil)) (takes_cons (takes_cons takes_nil))))
      (sv_cons (sv_app 3 (pe_bm PySem.F.plainAttrs_list PySem.F.slot_list_append PySem.F.type_list_append mt_append (pv 3) (pa_cons (ev_var 7 (pv 7)) pa_nil)))
      (sv_one (sv_app 4 (pe_bm PySem.F.plainAttrs_list PySem.F.slot_list_append PySem.F.type_list_append mt_append (pv 4) (pa_cons (ev_tup (av_cons (ev_var 2 (pv 2)) (av_cons (ev_var 8 (pv 8)) av_nil))) pa_nil))))))))))
    (sv_one (sv_ret (ev_frz 3 (pv 3))))))
theorem ok_size (T : Tops K w mg A F) (hS : SysN base) : FnG P w K mg base CX0 2 (A 28) (F 28) P_size (spF K mg 1 f_size) :=
  def_ok T.F_size sc_size (by decide) fun cdv A0 outer s H E hr =>
    (sv_one (sv_ret (ev_ix (ev_vL (ef_lst (av_cons ev_int (av_cons ev_int (av_cons ev_int (av_cons (ev_add ev_int (ev_call (ps := P_take) ((ok_take T hS).mono (by decide)) hr (by rfl) T.g_take T.F_take.kp T.b_take .nil (fun _ _ => Reps.nil) pass_ (av_cons (ev_var 0 (pv 0)) (av_cons ev_int av_nil)))) (av_cons (ev_call (ps := P_take) ((ok_take T hS).mono (by decide)) hr (by rfl) T.g_take T.F_take.kp T.b_take .nil (fun _ _ => Reps.nil) pass_ (av_cons (ev_var 0 (pv 0)) (av_cons ev_int av_nil))) av_nil))))))) (ev_call (ps := P_take) ((ok_take T hS).mono (by decide)) hr (by rfl) T.g_take T.F_take.kp T.b_take .nil (fun _ _ => Reps.nil) pass_ (av_cons (ev_var 0 (pv 0)) (av_cons ev_int av_nil))))))
theorem ok_are_rows (T : Tops K w mg A F) (hS : SysN base) : FnG P w K mg base CX0 1 (A 16) (F 16) P_are_rows (spF K mg 1 f_are_rows) :=
  def_ok T.F_are_rows sc_are_rows (by decide) fun cdv A0 outer s H E hr =>
    (sv_one (sv_ret (ev_and (ev_isi2 .lst .tup (ev_var 0 (pv 0)) (by rfl) T.z_isinstance (pe_tyN (by rfl) T.z_list (by decide +kernel)) (pe_tyN (by rfl) T.z_tuple (by decide +kernel))) (ev_bo1 (ev_cmp op_le c_le (ev_callB call_len b_len (by rfl) T.z_len (by decide +kernel) (av_cons (ev_var 0 (pv 0)) av_nil)) (ev_gint (by rfl) (T.c_MOST_ROWS).choose_spec) (nomark _))))))
theorem ok_has_only (T : Tops K w mg A F) (hS : SysN base) : FnG P w K mg base CX0 1 (A 2) (F 2) P_has_only (spF K mg 2 f_has_only) :=
  def_ok T.F_has_only sc_has_only (by decide) fun cdv A0 outer s H E hr =>
    (sv_one (sv_ret (ev_callB (cr_all rfl) b_all (by rfl) T.z_all (by decide +kernel) (av_cons (ev_vL (ef_comp (own := [("sign", 2)]) rfl sc_has_only.nd (iv_str (ev_var 0 (pv 0))) (blkOk_by (own := [("sign", 2)]) (N := N_has_only) (sc := defScope s_has_only) (by decide +kernel)) (fun _ _ _ _ _ => (gv_nm 2 sc_has_only.nd rfl (.inl rfl))) (fun _ _ _ _ _ => tv_nil) (fun _ _ _ _ _ => (ev_cmp op_inA c_in (ev_var 2 (pv 2)) (ev_var 1 (pv 1)) rfl)))) av_nil))))
theorem ok_is_name (T : Tops K w mg A F) (hS : SysN base) : FnG P w K mg base CX0 2 (A 3) (F 3) P_is_name (spF K mg 1 f_is_name) :=
  def_ok T.F_is_name sc_is_name (by decide) fun cdv A0 outer s H E hr =>
    (sv_one (sv_ret (ev_and (ev_isi .str (ev_var 0 (pv 0)) (by rfl) T.z_isinstance (pe_tyN (by rfl) T.z_str (by decide +kernel))) (ev_and (ev_chain op_le op_le c_le c_le ev_int (ev_callB call_len b_len (by rfl) T.z_len (by decide +kernel) (av_cons (ev_var 0 (pv 0)) av_nil)) (ev_gint (by rfl) (T.c_LONGEST).choose_spec)) (ev_bo1 (ev_call (ps := P_has_only) ((ok_has_only T hS).mono (by decide)) hr (by rfl) T.g_has_only T.F_has_only.kp T.b_has_only .nil (fun _ _ => Reps.nil) pass_ (av_cons (ev_var 0 (pv 0)) (av_cons (ev_gstr (by rfl) (T.c_LETTERS).choose_spec) av_nil))))))))
theorem ok_is_manner (T : Tops K w mg A F) (hS : SysN base) : FnG P w K mg base CX0 1 (A 4) (F 4) P_is_manner (spF K mg 1 f_is_manner) :=
  def_ok T.F_is_manner sc_is_manner (by decide) fun cdv A0 outer s H E hr =>
    (sv_one (sv_ret (ev_and (ev_isi .str (ev_var 0 (pv 0)) (by rfl) T.z_isinstance (pe_tyN (by rfl) T.z_str (by decide +kernel))) (ev_bo1 (ev_cmp op_inA c_in (ev_var 0 (pv 0)) (T.e_MANNERS (by rfl) rfl rfl) rfl)))))
theorem ok_is_number (T : Tops K w mg A F) (hS : SysN base) : FnG P w K mg base CX0 1 (A 0) (F 0) P_is_number (spF K mg 1 f_is_number) :=
  def_ok T.F_is_number sc_is_number (by decide) fun cdv A0 outer s H E hr =>
    (sv_one (sv_ret (ev_and (ev_isi .int (ev_var 0 (pv 0)) (by rfl) T.z_isinstance (pe_tyN (by rfl) T.z_int (by decide +kernel))) (ev_bo1 (ev_not (ev_isi .bl (ev_var 0 (pv 0)) (by rfl) T.z_isinstance (pe_tyN (by rfl) T.z_bool (by decide +kernel))))))))
theorem ok_is_whole (T : Tops K w mg A F) (hS : SysN base) : FnG P w K mg base CX0 2 (A 1) (F 1) P_is_whole (spF K mg 3 f_is_whole) :=
  def_ok T.F_is_whole sc_is_whole (by decide) fun cdv A0 outer s H E hr =>
    (sv_one (sv_ret (ev_and (ev_call (ps := P_is_number) ((ok_is_number T hS).mono (by decide)) hr (by rfl) T.g_is_number T.F_is_number.kp T.b_is_number .nil (fun _ _ => Reps.nil) pass_ (av_cons (ev_var 0 (pv 0)) av_nil)) (ev_bo1 (ev_chain op_le op_le c_le c_le (ev_var 1 (pv 1)) (ev_var 0 (pv 0)) (ev_var 2 (pv 2)))))))
theorem ok_is_short (T : Tops K w mg A F) (hS : SysN base) : FnG P w K mg base CX0 3 (A 5) (F 5) P_is_short (spF K mg 1 f_is_short) :=
  def_ok T.F_is_short sc_is_short (by decide) fun cdv A0 outer s H E hr =>
    (sv_one (sv_ret (ev_call (ps := P_is_whole) ((ok_is_whole T hS).mono (by decide)) hr (by rfl) T.g_is_whole T.F_is_whole.kp T.b_is_whole .nil (fun _ _ => Reps.nil) pass_ (av_cons (ev_var 0 (pv 0)) (av_cons (ev_sub ev_int (ev_gint (by rfl) (T.c_GREATEST).choose_spec)) (av_cons (ev_gint (by rfl) (T.c_GREATEST).choose_spec) av_nil))))))
theorem ok_is_most (T : Tops K w mg A F) (hS : SysN base) : FnG P w K mg base CX0 3 (A 6) (F 6) P_is_most (spF K mg 1 f_is_most) :=
  def_ok T.F_is_most sc_is_most (by decide) fun cdv A0 outer s H E hr =>
    (sv_one (sv_ret (ev_call (ps := P_is_whole) ((ok_is_whole T hS).mono (by decide)) hr (by rfl) T.g_is_whole T.F_is_whole.kp T.b_is_whole .nil (fun _ _ => Reps.nil) pass_ (av_cons (ev_var 0 (pv 0)) (av_cons ev_int (av_cons (ev_gint (by rfl) (T.c_MOST_MOST).choose_spec) av_nil))))))
theorem ok_are_so_many (T : Tops K w mg A F) (hS : SysN base) : FnG P w K mg base CX0 4 (A 7) (F 7) P_are_so_many (spF K mg 3 f_are_so_many) :=
  def_ok T.F_are_so_many sc_are_so_many (by decide) fun cdv A0 outer s H E hr =>
    (sv_one (sv_ret (ev_and (ev_isi .tup (ev_var 0 (pv 0)) (by rfl) T.z_isinstance (pe_tyN (by rfl) T.z_tuple (by decide +kernel))) (ev_and (ev_chain op_le op_le c_le c_le (ev_var 1 (pv 1)) (ev_callB call_len b_len (by rfl) T.z_len (by decide +kernel) (av_cons (ev_var 0 (pv 0)) av_nil)) (ev_var 2 (pv 2))) (ev_bo1 (ev_callB (cr_all rfl) b_all (by rfl) T.z_all (by decide +kernel) (av_cons (ev_vL (ef_comp (own := [("one", 3)]) rfl sc_are_so_many.nd (iv_seq (ev_var 0 (pv 0))) (blkOk_by (own := [("one", 3)]) (N := N_are_so_many) (sc := defScope s_are_so_many) (by decide +kernel)) (fun _ _ _ _ _ => (gv_nm 3 sc_are_so_many.nd rfl (.inl rfl))) (fun _ _ _ _ _ => tv_nil) (fun _ _ _ _ _ => (ev_call (ps := P_is_short) ((ok_is_short T hS).mono (by decide)) hr (by rfl) T.g_is_short T.F_is_short.kp T.b_is_short .nil (fun _ _ => Reps.nil) pass_ (av_cons (ev_var 3 (pv 3)) av_nil))))) av_nil)))))))
theorem ok_are_terms (T : Tops K w mg A F) (hS : SysN base) : FnG P w K mg base CX0 5 (A 8) (F 8) P_are_terms (spF K mg 1 f_are_terms) :=
  def_ok T.F_are_terms sc_are_terms (by decide) fun cdv A0 outer s H E hr =>
    (sv_one (sv_ret (ev_call (ps := P_are_so_many) ((ok_are_so_many T hS).mono (by decide)) hr (by rfl) T.g_are_so_many T.F_are_so_many.kp T.b_are_so_many .nil (fun _ _ => Reps.nil) pass_ (av_cons (ev_var 0 (pv 0)) (av_cons ev_int (av_cons (ev_gint (by rfl) (T.c_MOST_TERMS).choose_spec) av_nil))))))
theorem ok_is_round (T : Tops K w mg A F) (hS : SysN base) : FnG P w K mg base CX0 5 (A 9) (F 9) P_is_round (spF K mg 1 f_is_round) :=
  def_ok T.F_is_round sc_is_round (by decide) fun cdv A0 outer s H E hr =>
    (sv_one (sv_ret (ev_call (ps := P_are_so_many) ((ok_are_so_many T hS).mono (by decide)) hr (by rfl) T.g_are_so_many T.F_are_so_many.kp T.b_are_so_many .nil (fun _ _ => Reps.nil) pass_ (av_cons (ev_var 0 (pv 0)) (av_cons ev_int (av_cons (ev_gint (by rfl) (T.c_MOST_ROUND).choose_spec) av_nil))))))
theorem ok_are_steps (T : Tops K w mg A F) (hS : SysN base) : FnG P w K mg base CX0 6 (A 10) (F 10) P_are_steps (spF K mg 1 f_are_steps) :=
  def_ok T.F_are_steps sc_are_steps (by decide) fun cdv A0 outer s H E hr =>
    (sv_one (sv_ret (ev_or (ev_cmp op_isA c_is (ev_var 0 (pv 0)) ev_non (nomark _)) (ev_bo1 (ev_call (ps := P_is_round) ((ok_is_round T hS).mono (by decide)) hr (by rfl) T.g_is_round T.F_is_round.kp T.b_is_round .nil (fun _ _ => Reps.nil) pass_ (av_cons (ev_var 0 (pv 0)) av_nil))))))
theorem ok_are_two (T : Tops K w mg A F) (hS : SysN base) : FnG P w K mg base CX0 5 (A 11) (F 11) P_are_two (spF K mg 2 f_are_two) :=
  def_ok T.F_are_two sc_are_two (by decide) fun cdv A0 outer s H E hr =>
    (sv_one (sv_ret (ev_and (ev_isi .tup (ev_var 0 (pv 0)) (by rfl) T.z_isinstance (pe_tyN (by rfl) T.z_tuple (by decide +kernel))) (ev_and (ev_cmp (op_eqA hr.u64) c_eq (ev_callB call_len b_len (by rfl) T.z_len (by decide +kernel) (av_cons (ev_var 0 (pv 0)) av_nil)) ev_int (nomark _)) (ev_bo1 (ev_callB (cr_all rfl) b_all (by rfl) T.z_all (by decide +kernel) (av_cons (ev_vL (ef_comp (own := [("one", 2)]) rfl sc_are_two.nd (iv_seq (ev_var 0 (pv 0))) (blkOk_by (own := [("one", 2)]) (N := N_are_two) (sc := defScope s_are_two) (by decide +kernel)) (fun _ _ _ _ _ => (gv_nm 2 sc_are_two.nd rfl (.inl rfl))) (fun _ _ _ _ _ => tv_nil) (fun _ _ _ _ _ => (ev_call (ps := P_are_so_many) ((ok_are_so_many T hS).mono (by decide)) hr (by rfl) T.g_are_so_many T.F_are_so_many.kp T.b_are_so_many .nil (fun _ _ => Reps.nil) pass_ (av_cons (ev_var 2 (pv 2)) (av_cons (ev_var 1 (pv 1)) (av_cons (ev_var 1 (pv 1)) av_nil))))))) av_nil)))))))
theorem ok_are_four (T : Tops K w mg A F) (hS : SysN base) : FnG P w K mg base CX0 6 (A 12) (F 12) P_are_four (spF K mg 1 f_are_four) :=
  def_ok T.F_are_four sc_are_four (by decide) fun cdv A0 outer s H E hr =>
    (sv_one (sv_ret (ev_call (ps := P_are_two) ((ok_are_two T hS).mono (by decide)) hr (by rfl) T.g_are_two T.F_are_two.kp T.b_are_two .nil (fun _ _ => Reps.nil) pass_ (av_cons (ev_var 0 (pv 0)) (av_cons ev_int av_nil)))))
theorem ok_are_eight (T : Tops K w mg A F) (hS : SysN base) : FnG P w K mg base CX0 6 (A 13) (F 13) P_are_eight (spF K mg 1 f_are_eight) :=
  def_ok T.F_are_eight sc_are_eight (by decide) fun cdv A0 outer s H E hr =>
    (sv_one (sv_ret (ev_call (ps := P_are_two) ((ok_are_two T hS).mono (by decide)) hr (by rfl) T.g_are_two T.F_are_two.kp T.b_are_two .nil (fun _ _ => Reps.nil) pass_ (av_cons (ev_var 0 (pv 0)) (av_cons ev_int av_nil)))))
theorem ok_ftab (T : Tops K w mg A F) (hS : SysN base) : ∀ z mf, ftab.lookup z = some mf → ∃ f fd ps, ps.length = 1 ∧ FnG P w K mg base CX0 6 f fd ps (spF K mg ps.length mf) ∧ Binds K fd ps [] ∧ mg z = some (.ref f) ∧ PySem.W.keepIn K (.ref f) = true := by
  intro z mf h
  unfold ftab at h
  by_cases h_is_name : z = "is_name"
  · subst h_is_name
    cases h
    exact ⟨_, _, P_is_name, rfl, (ok_is_name T hS).mono (by decide), T.b_is_name, T.g_is_name, T.F_is_name.kp⟩
  by_cases h_is_manner : z = "is_manner"
  · subst h_is_manner
    cases h
    exact ⟨_, _, P_is_manner, rfl, (ok_is_manner T hS).mono (by decide), T.b_is_manner, T.g_is_manner, T.F_is_manner.kp⟩
  by_cases h_is_short : z = "is_short"
  · subst h_is_short
    cases h
    exact ⟨_, _, P_is_short, rfl, (ok_is_short T hS).mono (by decide), T.b_is_short, T.g_is_short, T.F_is_short.kp⟩
  by_cases h_is_most : z = "is_most"
  · subst h_is_most
    cases h
    exact ⟨_, _, P_is_most, rfl, (ok_is_most T hS).mono (by decide), T.b_is_most, T.g_is_most, T.F_is_most.kp⟩
  by_cases h_are_terms : z = "are_terms"
  · subst h_are_terms
    cases h
    exact ⟨_, _, P_are_terms, rfl, (ok_are_terms T hS).mono (by decide), T.b_are_terms, T.g_are_terms, T.F_are_terms.kp⟩
  by_cases h_is_round : z = "is_round"
  · subst h_is_round
    cases h
    exact ⟨_, _, P_is_round, rfl, (ok_is_round T hS).mono (by decide), T.b_is_round, T.g_is_round, T.F_is_round.kp⟩
  by_cases h_are_steps : z = "are_steps"
  · subst h_are_steps
    cases h
    exact ⟨_, _, P_are_steps, rfl, (ok_are_steps T hS).mono (by decide), T.b_are_steps, T.g_are_steps, T.F_are_steps.kp⟩
  by_cases h_are_four : z = "are_four"
  · subst h_are_four
    cases h
    exact ⟨_, _, P_are_four, rfl, (ok_are_four T hS).mono (by decide), T.b_are_four, T.g_are_four, T.F_are_four.kp⟩
  by_cases h_are_eight : z = "are_eight"
  · subst h_are_eight
    cases h
    exact ⟨_, _, P_are_eight, rfl, (ok_are_eight T hS).mono (by decide), T.b_are_eight, T.g_are_eight, T.F_are_eight.kp⟩
  simp [List.lookup_cons, beq_eq_false_iff_ne.mpr h_is_name, beq_eq_false_iff_ne.mpr h_is_manner, beq_eq_false_iff_ne.mpr h_is_short, beq_eq_false_iff_ne.mpr h_is_most, beq_eq_false_iff_ne.mpr h_are_terms, beq_eq_false_iff_ne.mpr h_is_round, beq_eq_false_iff_ne.mpr h_are_steps, beq_eq_false_iff_ne.mpr h_are_four, beq_eq_false_iff_ne.mpr h_are_eight] at h
theorem ok_fits (T : Tops K w mg A F) (hS : SysN base) : FnG P w K mg base CX0 7 (A 14) (F 14) P_fits (spF K mg 2 f_fits) :=
  def_ok T.F_fits sc_fits (by decide) fun cdv A0 outer s H E hr =>
    (sv_cons (sv_set 2 sc_fits.nd rfl (.inl rfl) (ev_tix (T.tab_FITS rfl rfl rfl) (T.d_FITS (by rfl) rfl) (ev_var 0 (pv 0))))
    (sv_one (sv_ret (ev_callV (k := 6) 2 (hr.mono (by decide)) pass_ rfl (.inl rfl) (av_cons (ev_var 1 (pv 1)) av_nil) (fun z mf h => ok_ftab T hS z mf h)))))
theorem ok_is_plan_row (T : Tops K w mg A F) (hS : SysN base) : FnG P w K mg base CX0 8 (A 15) (F 15) P_is_plan_row (spF K mg 1 f_is_plan_row) :=
  def_ok T.F_is_plan_row sc_is_plan_row (by decide) fun cdv A0 outer s H E hr =>
    (sv_cons (sv_if (L2.PW.pt (bw_or (bv_not (bv_tru (ev_isi .tup (ev_var 0 (pv 0)) (by rfl) T.z_isinstance (pe_tyN (by rfl) T.z_tuple (by decide +kernel))))) (bw_or (bv_cmp (op_eqA hr.u64) c_eq (ev_callB call_len b_len (by rfl) T.z_len (by decide +kernel) (av_cons (ev_var 0 (pv 0)) av_nil)) ev_int (nomark _)) (bw_or (bv_not (bv_tru (ev_isi .str (ev_ix (ev_var 0 (pv 0)) ev_int) (by rfl) T.z_isinstance (pe_tyN (by rfl) T.z_str (by decide +kernel))))) (bw_one_or (bv_cmp (op_notInT "SHAPES") (c_notInT (T.tab_SHAPES rfl rfl rfl)) (ev_ix (ev_var 0 (pv 0)) ev_int) (T.d_SHAPES (by rfl) rfl) rfl))))))
     (sv_one (sv_ret ev_bl))
     sv_nil)
    (sv_cons (sv_set 1 sc_is_plan_row.nd rfl (.inl rfl) (ev_tix (T.tab_SHAPES rfl rfl rfl) (T.d_SHAPES (by rfl) rfl) (ev_ix (ev_var 0 (pv 0)) ev_int)))
    (sv_one (sv_ret (ev_and (ev_cmp (op_eqA hr.u64) c_eq (ev_callB call_len b_len (by rfl) T.z_len (by decide +kernel) (av_cons (ev_var 0 (pv 0)) av_nil)) (ev_add (ev_callB call_len b_len (by rfl) T.z_len (by decide +kernel) (av_cons (ev_var 1 (pv 1)) av_nil)) ev_int) (nomark _)) (ev_bo1 (ev_callB (cr_all rfl) b_all (by rfl) T.z_all (by decide +kernel) (av_cons (ev_vL (ef_comp (own := [("kind", 2), ("one", 3)]) rfl sc_is_plan_row.nd (iv_zip (by rfl) T.z_zip (ev_var 1 (pv 1)) (ev_slice (ev_var 0 (pv 0)) (ov_some ev_int) ov_none)) (blkOk_by (own := [("kind", 2), ("one", 3)]) (N := N_is_plan_row) (sc := defScope s_is_plan_row) (by decide +kernel)) (fun _ _ _ _ _ => (gv_tp rfl (gvs_cons (gv_nm 2 sc_is_plan_row.nd rfl (.inl rfl)) (gvs_cons (gv_nm 3 sc_is_plan_row.nd rfl (.inl rfl)) gvs_nil)) (takes_cons (takes_cons takes_nil)))) (fun _ _ _ _ _ => tv_nil) (fun _ _ _ _ _ => (ev_call (ps := P_fits) ((ok_fits T hS).mono (by decide)) hr (by rfl) T.g_fits T.F_fits.kp T.b_fits .nil (fun _ _ => Reps.nil) pass_ (av_cons (ev_var 2 (pv 2)) (av_cons (ev_var 3 (pv 3)) av_nil)))))) av_nil))))))))
theorem ok_is_plan (T : Tops K w mg A F) (hS : SysN base) : FnG P w K mg base CX0 9 (A 17) (F 17) P_is_plan (spF K mg 1 f_is_plan) :=
  def_ok T.F_is_plan sc_is_plan (by decide) fun cdv A0 outer s H E hr =>
    (sv_one (sv_ret (ev_and (ev_call (ps := P_are_rows) ((ok_are_rows T hS).mono (by decide)) hr (by rfl) T.g_are_rows T.F_are_rows.kp T.b_are_rows .nil (fun _ _ => Reps.nil) pass_ (av_cons (ev_var 0 (pv 0)) av_nil)) (ev_bo1 (ev_callB (cr_all rfl) b_all (by rfl) T.z_all (by decide +kernel) (av_cons (ev_vL (ef_comp (own := [("row", 1)]) rfl sc_is_plan.nd (iv_seq (ev_var 0 (pv 0))) (blkOk_by (own := [("row", 1)]) (N := N_is_plan) (sc := defScope s_is_plan) (by decide +kernel)) (fun _ _ _ _ _ => (gv_nm 1 sc_is_plan.nd rfl (.inl rfl))) (fun _ _ _ _ _ => tv_nil) (fun _ _ _ _ _ => (ev_call (ps := P_is_plan_row) ((ok_is_plan_row T hS).mono (by decide)) hr (by rfl) T.g_is_plan_row T.F_is_plan_row.kp T.b_is_plan_row .nil (fun _ _ => Reps.nil) pass_ (av_cons (ev_var 1 (pv 1)) av_nil))))) av_nil))))))
theorem ok_may_spoil (T : Tops K w mg A F) (hS : SysN base) : FnG P w K mg base CX0 1 (A 38) (F 38) P_may_spoil (spF K mg 1 f_may_spoil) :=
  def_ok T.F_may_spoil sc_may_spoil (by decide) fun cdv A0 outer s H E hr =>
    (sv_cons (sv_if (bv_not (bv_tru (ev_isi .lst (ev_var 0 (pv 0)) (by rfl) T.z_isinstance (pe_tyN (by rfl) T.z_list (by decide +kernel)))))
     (sv_one (sv_ret ev_bl))
     sv_nil)
    (sv_one (sv_ret (ev_cmp (op_eqA hr.u64) c_eq (ev_vL (ef_comp (own := [("_law_row", 1)]) rfl sc_may_spoil.nd (iv_seq (ev_var 0 (pv 0))) (blkOk_by (own := [("_law_row", 1)]) (N := N_may_spoil) (sc := defScope s_may_spoil) (by decide +kernel)) (fun _ _ _ _ _ => (gv_nm 1 sc_may_spoil.nd rfl (.inl rfl))) (fun _ _ _ _ _ => (tv_one (L2.PW.pt (bw_or (bv_not (bv_tru (ev_isi .tup (ev_var 1 (pv 1)) (by rfl) T.z_isinstance (pe_tyN (by rfl) T.z_tuple (by decide +kernel))))) (bw_one_or (bv_cmp (op_eqA hr.u64) c_eq (ev_var 1 (pv 1)) (ev_tup av_nil) (nomark _))))))) (fun _ _ _ _ _ => (ev_var 1 (pv 1))))) (ev_vL (ef_lst av_nil)) (nomark _)))))
theorem ok_spoilt_row (T : Tops K w mg A F) (hS : SysN base) : FnG P w K mg base CX0 2 (A 37) (F 37) P_spoilt_row (spF K mg 2 f_spoilt_row) :=
  def_ok T.F_spoilt_row sc_spoilt_row (by decide) fun cdv A0 outer s H E hr =>
    (sv_cons (sv_set 2 sc_spoilt_row.nd rfl (.inl rfl) (ev_call (ps := P_take) ((ok_take T hS).mono (by decide)) hr (by rfl) T.g_take T.F_take.kp T.b_take .nil (fun _ _ => Reps.nil) pass_ (av_cons (ev_var 0 (pv 0)) (av_cons ev_int av_nil))))
    (sv_cons (sv_set 3 sc_spoilt_row.nd rfl (.inl rfl) (ev_call (ps := P_take) ((ok_take T hS).mono (by decide)) hr (by rfl) T.g_take T.F_take.kp T.b_take .nil (fun _ _ => Reps.nil) pass_ (av_cons (ev_var 0 (pv 0)) (av_cons (ev_callB call_len b_len (by rfl) T.z_len (by decide +kernel) (av_cons (ev_var 1 (pv 1)) av_nil)) av_nil))))
    (sv_cons (sv_if (bv_cmp op_lt c_lt (ev_var 2 (pv 2)) ev_int (nomark _))
     (sv_cons (sv_set 4 sc_spoilt_row.nd rfl (.inl rfl) (ev_vL (ef_lst (av_cons ev_non (av_cons ev_bl (av_cons ev_int (av_cons ev_str (av_cons ev_str (av_cons ev_str (av_cons (ev_tup av_nil) (av_cons (ev_tup (av_cons ev_int av_nil)) (av_cons (ev_vL (ef_lst (av_cons ev_int (av_cons ev_int av_nil)))) (av_cons ev_int (av_cons ev_int (av_cons (ev_sub (ev_pow ev_int ev_int) ev_int) (av_cons ev_dic0 (av_cons ev_str av_nil)))))))))))))))))
     (sv_cons (sv_set 4 sc_spoilt_row.nd rfl (.inl rfl) (ev_add (ev_var 4 (pv 4)) (ev_vL (ef_lst (av_cons (ev_tup (av_cons ev_bl av_nil)) (av_cons (ev_tup (av_cons ev_int (av_cons ev_non av_nil))) (av_cons (ev_tup (av_cons ev_str av_nil)) (av_cons (ev_tup (av_cons (ev_tup (av_cons ev_int (av_cons ev_int av_nil))) (av_cons (ev_tup (av_cons ev_int (av_cons ev_int av_nil))) av_nil))) (av_cons (ev_tup (av_cons (ev_tup (av_cons ev_int (av_cons ev_int av_nil))) (av_cons (ev_tup (av_cons ev_int av_nil)) av_nil))) (av_cons (ev_tupR2 rfl (by rfl) T.z_tuple (by rfl) T.z_range ev_int ev_int) (av_cons ev_str (av_cons ev_str av_nil))))))))))))
     (sv_one (sv_ret (ev_add (ev_add (ev_slice (ev_var 1 (pv 1)) ov_none (ov_some (ev_var 3 (pv 3)))) (ev_tup (av_cons (ev_ix (ev_var 4 (pv 4)) (ev_call (ps := P_take) ((ok_take T hS).mono (by decide)) hr (by rfl) T.g_take T.F_take.kp T.b_take .nil (fun _ _ => Reps.nil) pass_ (av_cons (ev_var 0 (pv 0)) (av_cons ev_int av_nil)))) av_nil))) (ev_slice (ev_var 1 (pv 1)) (ov_some (ev_add (ev_var 3 (pv 3)) ev_int)) ov_none))))))
     sv_nil)
    (sv_cons (sv_if (bv_cmp (op_eqA hr.u64) c_eq (ev_var 2 (pv 2)) ev_int (nomark _))
     (sv_one (sv_ret (ev_add (ev_slice (ev_var 1 (pv 1)) ov_none (ov_some (ev_var 3 (pv 3)))) (ev_slice (ev_var 1 (pv 1)) (ov_some (ev_add (ev_var 3 (pv 3)) ev_int)) ov_none))))
     sv_nil)
    (sv_cons (sv_if (bv_cmp (op_eqA hr.u64) c_eq (ev_var 2 (pv 2)) ev_int (nomark _))
     (sv_one (sv_ret (ev_add (ev_add (ev_slice (ev_var 1 (pv 1)) ov_none (ov_some (ev_var 3 (pv 3)))) (ev_slice (ev_var 1 (pv 1)) (ov_some (ev_var 3 (pv 3))) (ov_some (ev_add (ev_var 3 (pv 3)) ev_int)))) (ev_slice (ev_var 1 (pv 1)) (ov_some (ev_var 3 (pv 3))) ov_none))))
     sv_nil)
    (sv_cons (sv_if (bv_cmp (op_eqA hr.u64) c_eq (ev_var 2 (pv 2)) ev_int (nomark _))
     (sv_one (sv_ret (ev_callT call_list_of b_list (by rfl) T.z_list (by decide +kernel) (av_cons (ev_var 1 (pv 1)) av_nil))))
     sv_nil)
    (sv_cons (sv_if (bv_cmp (op_eqA hr.u64) c_eq (ev_var 2 (pv 2)) ev_int (nomark _))
     (sv_one (sv_ret (ev_ix (ev_vL (ef_lst (av_cons ev_non (av_cons ev_int (av_cons ev_str (av_cons (ev_tup av_nil) (av_cons (ev_vL (ef_lst av_nil)) (av_cons ev_dic0 (av_cons (ev_tup (av_cons ev_str av_nil)) av_nil))))))))) (ev_call (ps := P_take) ((ok_take T hS).mono (by decide)) hr (by rfl) T.g_take T.F_take.kp T.b_take .nil (fun _ _ => Reps.nil) pass_ (av_cons (ev_var 0 (pv 0)) (av_cons ev_int av_nil))))))
     sv_nil)
    (sv_cons (sv_if (bv_cmp (op_eqA hr.u64) c_eq (ev_var 2 (pv 2)) ev_int (nomark _))
     (sv_cons (sv_set 5 sc_spoilt_row.nd rfl (.inl rfl) (ev_vL (ef_lst (av_cons ev_str (av_cons ev_str (av_cons ev_str (av_cons ev_str (av_cons ev_str (av_cons ev_str (av_cons ev_str (av_cons ev_str (av_cons ev_str (av_cons ev_str av_nil)))))))))))))
     (sv_one (sv_ret (ev_add (ev_tup (av_cons (ev_ix (ev_var 5 (pv 5)) (ev_call (ps := P_take) ((ok_take T hS).mono (by decide)) hr (by rfl) T.g_take T.F_take.kp T.b_take .nil (fun _ _ => Reps.nil) pass_ (av_cons (ev_var 0 (pv 0)) (av_cons ev_int av_nil)))) av_nil)) (ev_slice (ev_var 1 (pv 1)) (ov_some ev_int) ov_none)))))
     sv_nil)
    (sv_one (sv_ret (ev_var 1 (pv 1))))))))))))
theorem ok_spoilt (T : Tops K w mg A F) (hS : SysN base) : FnG P w K mg base CX0 3 (A 39) (F 39) P_spoilt (spF K mg 2 f_spoilt) :=
  def_ok T.F_spoilt sc_spoilt (by decide) fun cdv A0 outer s H E hr =>
    (sv_cons (sv_set 2 sc_spoilt.nd rfl (.inl rfl) (ev_call (ps := P_take) ((ok_take T hS).mono (by decide)) hr (by rfl) T.g_take T.F_take.kp T.b_take .nil (fun _ _ => Reps.nil) pass_ (av_cons (ev_var 0 (pv 0)) (av_cons ev_int av_nil))))
    (sv_cons (sv_set 3 sc_spoilt.nd rfl (.inl rfl) (ev_call (ps := P_take) ((ok_take T hS).mono (by decide)) hr (by rfl) T.g_take T.F_take.kp T.b_take .nil (fun _ _ => Reps.nil) pass_ (av_cons (ev_var 0 (pv 0)) (av_cons (ev_callB (call_max2 rfl) b_max2 (by rfl) T.z_max (by decide +kernel) (av_cons ev_int (av_cons (ev_callB call_len b_len (by rfl) T.z_len (by decide +kernel) (av_cons (ev_var 1 (pv 1)) av_nil)) av_nil))) av_nil))))
    (sv_cons (sv_if (L2.PW.pt (bw_and (bv_cmp op_lt c_lt (ev_var 2 (pv 2)) ev_int (nomark _)) (bw_one_and (bv_cmp (op_neA hr.u64) c_ne (ev_var 1 (pv 1)) (ev_vL (ef_lst av_nil)) (nomark _)))))
     (sv_one (sv_ret (ev_add (ev_add (ev_slice (ev_var 1 (pv 1)) ov_none (ov_some (ev_var 3 (pv 3)))) (ev_vL (ef_lst (av_cons (ev_call (ps := P_spoilt_row) ((ok_spoilt_row T hS).mono (by decide)) hr (by rfl) T.g_spoilt_row T.F_spoilt_row.kp T.b_spoilt_row .nil (fun _ _ => Reps.nil) pass_ (av_cons (ev_var 0 (pv 0)) (av_cons (ev_ix (ev_var 1 (pv 1)) (ev_var 3 (pv 3))) av_nil))) av_nil)))) (ev_slice (ev_var 1 (pv 1)) (ov_some (ev_add (ev_var 3 (pv 3)) ev_int)) ov_none))))
     sv_nil)
    (sv_cons (sv_if (bv_cmp (op_eqA hr.u64) c_eq (ev_var 2 (pv 2)) ev_int (nomark _))
     (sv_one (sv_ret (ev_add (ev_var 1 (pv 1)) (ev_slice (ev_var 1 (pv 1)) (ov_some (ev_var 3 (pv 3))) (ov_some (ev_add (ev_var 3 (pv 3)) ev_int))))))
     sv_nil)
    (sv_cons (sv_if (bv_cmp (op_eqA hr.u64) c_eq (ev_var 2 (pv 2)) ev_int (nomark _))
     (sv_one (sv_ret (ev_ix (ev_vL (ef_lst (av_cons ev_non (av_cons ev_int (av_cons ev_str (av_cons ev_str (av_cons ev_dic0 (av_cons (ev_tup (av_cons ev_str (av_cons ev_str (av_cons ev_str (av_cons (ev_tup (av_cons ev_int av_nil)) av_nil))))) (av_cons ev_bl (av_cons (ev_vL (ef_lst (av_cons (ev_vL (ef_lst av_nil)) av_nil))) av_nil)))))))))) (ev_call (ps := P_take) ((ok_take T hS).mono (by decide)) hr (by rfl) T.g_take T.F_take.kp T.b_take .nil (fun _ _ => Reps.nil) pass_ (av_cons (ev_var 0 (pv 0)) (av_cons ev_int av_nil))))))
     sv_nil)
    (sv_cons (sv_if (bv_cmp (op_eqA hr.u64) c_eq (ev_var 2 (pv 2)) ev_int (nomark _))
     (sv_one (sv_ret (ev_rev (ev_var 1 (pv 1)))))
     sv_nil)
    (sv_one (sv_ret (ev_var 1 (pv 1))))))))))
theorem ok_called (T : Tops K w mg A F) (hS : SysN base) : FnG P w K mg base CX0 1 (A 30) (F 30) P_called (spF K mg 1 f_called) :=
  def_ok T.F_called sc_called (by decide) fun cdv A0 outer s H E hr =>
    (sv_cons (sv_if (L2.PW.pt (bw_or (bv_not (bv_tru (ev_isi .str (ev_var 0 (pv 0)) (by rfl) T.z_isinstance (pe_tyN (by rfl) T.z_str (by decide +kernel))))) (bw_one_or (bv_not (bv_chain op_le op_le c_le c_le ev_int (ev_callB call_len b_len (by rfl) T.z_len (by decide +kernel) (av_cons (ev_var 0 (pv 0)) av_nil)) ev_int)))))
     (sv_one (sv_ret ev_bl))
     sv_nil)
    (sv_one (sv_ret (ev_cmp (op_eqA hr.u64) c_eq (ev_vL (ef_comp (own := [("_law_sign", 1)]) rfl sc_called.nd (iv_str (ev_var 0 (pv 0))) (blkOk_by (own := [("_law_sign", 1)]) (N := N_called) (sc := defScope s_called) (by decide +kernel)) (fun _ _ _ _ _ => (gv_nm 1 sc_called.nd rfl (.inl rfl))) (fun _ _ _ _ _ => (tv_one (bv_cmp op_notInA c_notIn (ev_var 1 (pv 1)) ev_str rfl))) (fun _ _ _ _ _ => (ev_var 1 (pv 1))))) (ev_vL (ef_lst av_nil)) (nomark _)))))
theorem ok_short (T : Tops K w mg A F) (hS : SysN base) : FnG P w K mg base CX0 1 (A 29) (F 29) P_short (spF K mg 1 f_short) :=
  def_ok T.F_short sc_short (by decide) fun cdv A0 outer s H E hr =>
    (sv_one (sv_ret (ev_and (ev_isi .int (ev_var 0 (pv 0)) (by rfl) T.z_isinstance (pe_tyN (by rfl) T.z_int (by decide +kernel))) (ev_and (ev_not (ev_isi .bl (ev_var 0 (pv 0)) (by rfl) T.z_isinstance (pe_tyN (by rfl) T.z_bool (by decide +kernel)))) (ev_bo1 (ev_chain op_lt op_lt c_lt c_lt (ev_sub ev_int (ev_pow ev_int ev_int)) (ev_var 0 (pv 0)) (ev_pow ev_int ev_int)))))))
theorem ok_numbers (T : Tops K w mg A F) (hS : SysN base) : FnG P w K mg base CX0 2 (A 31) (F 31) P_numbers (spF K mg 3 f_numbers) :=
  def_ok T.F_numbers sc_numbers (by decide) fun cdv A0 outer s H E hr =>
    (sv_cons (sv_if (L2.PW.pt (bw_or (bv_not (bv_tru (ev_isi .tup (ev_var 0 (pv 0)) (by rfl) T.z_isinstance (pe_tyN (by rfl) T.z_tuple (by decide +kernel))))) (bw_one_or (bv_not (bv_chain op_le op_le c_le c_le (ev_var 1 (pv 1)) (ev_callB call_len b_len (by rfl) T.z_len (by decide +kernel) (av_cons (ev_var 0 (pv 0)) av_nil)) (ev_var 2 (pv 2)))))))
     (sv_one (sv_ret ev_bl))
     sv_nil)
    (sv_one (sv_ret (ev_cmp (op_eqA hr.u64) c_eq (ev_vL (ef_comp (own := [("_law_one", 3)]) rfl sc_numbers.nd (iv_seq (ev_var 0 (pv 0))) (blkOk_by (own := [("_law_one", 3)]) (N := N_numbers) (sc := defScope s_numbers) (by decide +kernel)) (fun _ _ _ _ _ => (gv_nm 3 sc_numbers.nd rfl (.inl rfl))) (fun _ _ _ _ _ => (tv_one (bv_not (bv_tru (ev_call (ps := P_short) ((ok_short T hS).mono (by decide)) hr (by rfl) T.g_short T.F_short.kp T.b_short .nil (fun _ _ => Reps.nil) pass_ (av_cons (ev_var 3 (pv 3)) av_nil)))))) (fun _ _ _ _ _ => (ev_var 3 (pv 3))))) (ev_vL (ef_lst av_nil)) (nomark _)))))
theorem ok_word (T : Tops K w mg A F) (hS : SysN base) : FnG P w K mg base CX0 1 (A 32) (F 32) P_word (spF K mg 1 f_word) :=
  def_ok T.F_word sc_word (by decide) fun cdv A0 outer s H E hr =>
    (sv_one (sv_ret (ev_and (ev_isi .str (ev_var 0 (pv 0)) (by rfl) T.z_isinstance (pe_tyN (by rfl) T.z_str (by decide +kernel))) (ev_bo1 (ev_cmp op_inA c_in (ev_var 0 (pv 0)) (ev_tup (av_cons ev_str (av_cons ev_str (av_cons ev_str av_nil)))) rfl)))))
theorem ok_most (T : Tops K w mg A F) (hS : SysN base) : FnG P w K mg base CX0 2 (A 33) (F 33) P_most (spF K mg 1 f_most) :=
  def_ok T.F_most sc_most (by decide) fun cdv A0 outer s H E hr =>
    (sv_one (sv_ret (ev_and (ev_call (ps := P_short) ((ok_short T hS).mono (by decide)) hr (by rfl) T.g_short T.F_short.kp T.b_short .nil (fun _ _ => Reps.nil) pass_ (av_cons (ev_var 0 (pv 0)) av_nil)) (ev_bo1 (ev_chain op_le op_le c_le c_le ev_int (ev_var 0 (pv 0)) ev_int)))))
theorem ok_two_rows (T : Tops K w mg A F) (hS : SysN base) : FnG P w K mg base CX0 3 (A 34) (F 34) P_two_rows (spF K mg 2 f_two_rows) :=
  def_ok T.F_two_rows sc_two_rows (by decide) fun cdv A0 outer s H E hr =>
    (sv_cons (sv_if (L2.PW.pt (bw_or (bv_not (bv_tru (ev_isi .tup (ev_var 0 (pv 0)) (by rfl) T.z_isinstance (pe_tyN (by rfl) T.z_tuple (by decide +kernel))))) (bw_one_or (bv_cmp (op_neA hr.u64) c_ne (ev_callB call_len b_len (by rfl) T.z_len (by decide +kernel) (av_cons (ev_var 0 (pv 0)) av_nil)) ev_int (nomark _)))))
     (sv_one (sv_ret ev_bl))
     sv_nil)
    (sv_one (sv_ret (ev_and (ev_call (ps := P_numbers) ((ok_numbers T hS).mono (by decide)) hr (by rfl) T.g_numbers T.F_numbers.kp T.b_numbers .nil (fun _ _ => Reps.nil) pass_ (av_cons (ev_ix (ev_var 0 (pv 0)) ev_int) (av_cons (ev_var 1 (pv 1)) (av_cons (ev_var 1 (pv 1)) av_nil)))) (ev_bo1 (ev_call (ps := P_numbers) ((ok_numbers T hS).mono (by decide)) hr (by rfl) T.g_numbers T.F_numbers.kp T.b_numbers .nil (fun _ _ => Reps.nil) pass_ (av_cons (ev_ix (ev_var 0 (pv 0)) ev_int) (av_cons (ev_var 1 (pv 1)) (av_cons (ev_var 1 (pv 1)) av_nil)))))))))
theorem ok_row_good (T : Tops K w mg A F) (hS : SysN base) : FnG P w K mg base CX0 4 (A 35) (F 35) P_row_good (spF K mg 1 f_row_good) :=
  def_ok T.F_row_good sc_row_good (by decide) fun cdv A0 outer s H E hr =>
    (sv_cons (sv_if (L2.PW.pt (bw_or (bv_not (bv_tru (ev_isi .tup (ev_var 0 (pv 0)) (by rfl) T.z_isinstance (pe_tyN (by rfl) T.z_tuple (by decide +kernel))))) (bw_or (bv_cmp (op_eqA hr.u64) c_eq (ev_callB call_len b_len (by rfl) T.z_len (by decide +kernel) (av_cons (ev_var 0 (pv 0)) av_nil)) ev_int (nomark _)) (bw_one_or (bv_not (bv_tru (ev_isi .str (ev_ix (ev_var 0 (pv 0)) ev_int) (by rfl) T.z_isinstance (pe_tyN (by rfl) T.z_str (by decide +kernel)))))))))
     (sv_one (sv_ret ev_bl))
     sv_nil)
    (sv_cons (sv_set 1 sc_row_good.nd rfl (.inl rfl) (ev_dict (dv_cons ev_int (dv_cons ev_int (dv_cons ev_int (dv_cons ev_int (dv_cons ev_int (dv_cons ev_int (dv_cons ev_int dv_nil))))))) (by decide) (by simp) (by decide)))
    (sv_cons (sv_if (L2.PW.pt (bw_or (bv_cmp (op_notInD hr.u1) c_notInD (ev_ix (ev_var 0 (pv 0)) ev_int) (ev_var 1 (pv 1)) rfl) (bw_or (bv_cmp (op_neA hr.u64) c_ne (ev_callB call_len b_len (by rfl) T.z_len (by decide +kernel) (av_cons (ev_var 0 (pv 0)) av_nil)) (ev_dget hr.u1 (ev_var 1 (pv 1)) (ev_ix (ev_var 0 (pv 0)) ev_int) (fun _ _ => rfl)) (nomark _)) (bw_one_or (bv_not (bv_tru (ev_call (ps := P_called) ((ok_called T hS).mono (by decide)) hr (by rfl) T.g_called T.F_called.kp T.b_called .nil (fun _ _ => Reps.nil) pass_ (av_cons (ev_ix (ev_var 0 (pv 0)) ev_int) av_nil))))))))
     (sv_one (sv_ret ev_bl))
     sv_nil)
    (sv_cons (sv_if (bv_cmp (op_eqA hr.u64) c_eq (ev_ix (ev_var 0 (pv 0)) ev_int) ev_str (nomark _))
     (sv_one (sv_ret (ev_call (ps := P_numbers) ((ok_numbers T hS).mono (by decide)) hr (by rfl) T.g_numbers T.F_numbers.kp T.b_numbers .nil (fun _ _ => Reps.nil) pass_ (av_cons (ev_slice (ev_var 0 (pv 0)) (ov_some ev_int) ov_none) (av_cons ev_int (av_cons ev_int av_nil))))))
     sv_nil)
    (sv_cons (sv_if (L2.PW.pt (bw_and (bv_cmp op_inA c_in (ev_ix (ev_var 0 (pv 0)) ev_int) (ev_tup (av_cons ev_str (av_cons ev_str (av_cons ev_str av_nil)))) rfl) (bw_one_and (bv_not (bv_tru (ev_call (ps := P_word) ((ok_word T hS).mono (by decide)) hr (by rfl) T.g_word T.F_word.kp T.b_word .nil (fun _ _ => Reps.nil) pass_ (av_cons (ev_ix (ev_var 0 (pv 0)) ev_int) av_nil)))))))
     (sv_one (sv_ret ev_bl))
     sv_nil)
    (sv_cons (sv_if (bv_cmp (op_eqA hr.u64) c_eq (ev_ix (ev_var 0 (pv 0)) ev_int) ev_str (nomark _))
     (sv_one (sv_ret ev_bl))
     sv_nil)
    (sv_cons (sv_if (L2.PW.pt (bw_and (bv_cmp op_inA c_in (ev_ix (ev_var 0 (pv 0)) ev_int) (ev_tup (av_cons ev_str (av_cons ev_str av_nil))) rfl) (bw_one_and (bv_not (bv_tru (ev_call (ps := P_numbers) ((ok_numbers T hS).mono (by decide)) hr (by rfl) T.g_numbers T.F_numbers.kp T.b_numbers .nil (fun _ _ => Reps.nil) pass_ (av_cons (ev_ix (ev_var 0 (pv 0)) ev_int) (av_cons ev_int (av_cons ev_int av_nil)))))))))
     (sv_one (sv_ret ev_bl))
     sv_nil)
    (sv_cons (sv_if (bv_cmp (op_eqA hr.u64) c_eq (ev_ix (ev_var 0 (pv 0)) ev_int) ev_str (nomark _))
     (sv_one (sv_ret (ev_and (ev_call (ps := P_numbers) ((ok_numbers T hS).mono (by decide)) hr (by rfl) T.g_numbers T.F_numbers.kp T.b_numbers .nil (fun _ _ => Reps.nil) pass_ (av_cons (ev_ix (ev_var 0 (pv 0)) ev_int) (av_cons ev_int (av_cons ev_int av_nil)))) (ev_bo1 (ev_or (ev_cmp op_isA c_is (ev_ix (ev_var 0 (pv 0)) ev_int) ev_non (nomark _)) (ev_bo1 (ev_call (ps := P_numbers) ((ok_numbers T hS).mono (by decide)) hr (by rfl) T.g_numbers T.F_numbers.kp T.b_numbers .nil (fun _ _ => Reps.nil) pass_ (av_cons (ev_ix (ev_var 0 (pv 0)) ev_int) (av_cons ev_int (av_cons ev_int av_nil))))))))))
     sv_nil)
    (sv_cons (sv_if (bv_cmp (op_eqA hr.u64) c_eq (ev_ix (ev_var 0 (pv 0)) ev_int) ev_str (nomark _))
     (sv_one (sv_ret ev_bl))
     sv_nil)
    (sv_cons (sv_if (bv_cmp (op_eqA hr.u64) c_eq (ev_ix (ev_var 0 (pv 0)) ev_int) ev_str (nomark _))
     (sv_one (sv_ret (ev_and (ev_call (ps := P_called) ((ok_called T hS).mono (by decide)) hr (by rfl) T.g_called T.F_called.kp T.b_called .nil (fun _ _ => Reps.nil) pass_ (av_cons (ev_ix (ev_var 0 (pv 0)) ev_int) av_nil)) (ev_bo1 (ev_call (ps := P_most) ((ok_most T hS).mono (by decide)) hr (by rfl) T.g_most T.F_most.kp T.b_most .nil (fun _ _ => Reps.nil) pass_ (av_cons (ev_ix (ev_var 0 (pv 0)) ev_int) av_nil))))))
     sv_nil)
    (sv_cons (sv_set 2 sc_row_good.nd rfl (.inl rfl) (ev_add ev_int (ev_callT call_int1 b_int (by rfl) T.z_int (by decide +kernel) (av_cons (ev_cmp (op_eqA hr.u64) c_eq (ev_ix (ev_var 0 (pv 0)) ev_int) ev_str (nomark _)) av_nil))))
    (sv_cons (sv_if (bv_cmp (op_neA hr.u64) c_ne (ev_vL (ef_comp (own := [("_law_name", 4)]) rfl sc_row_good.nd (iv_seq (ev_slice (ev_var 0 (pv 0)) (ov_some ev_int) (ov_some (ev_add ev_int (ev_var 2 (pv 2)))))) (blkOk_by (own := [("_law_name", 4)]) (N := N_row_good) (sc := defScope s_row_good) (by decide +kernel)) (fun _ _ _ _ _ => (gv_nm 4 sc_row_good.nd rfl (.inl rfl))) (fun _ _ _ _ _ => (tv_one (bv_not (bv_tru (ev_call (ps := P_called) ((ok_called T hS).mono (by decide)) hr (by rfl) T.g_called T.F_called.kp T.b_called .nil (fun _ _ => Reps.nil) pass_ (av_cons (ev_var 4 (pv 4)) av_nil)))))) (fun _ _ _ _ _ => (ev_var 4 (pv 4))))) (ev_vL (ef_lst av_nil)) (nomark _))
     (sv_one (sv_ret ev_bl))
     sv_nil)
    (sv_cons (sv_set 3 sc_row_good.nd rfl (.inl rfl) (ev_slice (ev_var 0 (pv 0)) (ov_some (ev_add ev_int (ev_var 2 (pv 2)))) ov_none))
    (sv_one (sv_ret (ev_and (ev_call (ps := P_word) ((ok_word T hS).mono (by decide)) hr (by rfl) T.g_word T.F_word.kp T.b_word .nil (fun _ _ => Reps.nil) pass_ (av_cons (ev_ix (ev_var 3 (pv 3)) ev_int) av_nil)) (ev_and (ev_call (ps := P_most) ((ok_most T hS).mono (by decide)) hr (by rfl) T.g_most T.F_most.kp T.b_most .nil (fun _ _ => Reps.nil) pass_ (av_cons (ev_ix (ev_var 3 (pv 3)) ev_int) av_nil)) (ev_bo1 (ev_call (ps := P_two_rows) ((ok_two_rows T hS).mono (by decide)) hr (by rfl) T.g_two_rows T.F_two_rows.kp T.b_two_rows .nil (fun _ _ => Reps.nil) pass_ (av_cons (ev_ix (ev_var 3 (pv 3)) ev_int) (av_cons (ev_sub (ev_mul ev_int (ev_var 2 (pv 2))) ev_int) av_nil)))))))))))))))))))))
theorem ok_plan_good (T : Tops K w mg A F) (hS : SysN base) : FnG P w K mg base CX0 5 (A 36) (F 36) P_plan_good (spF K mg 1 f_plan_good) :=
  def_ok T.F_plan_good sc_plan_good (by decide) fun cdv A0 outer s H E hr =>
    (sv_cons (sv_if (L2.PW.pt (bw_or (bv_not (bv_tru (ev_isi2 .lst .tup (ev_var 0 (pv 0)) (by rfl) T.z_isinstance (pe_tyN (by rfl) T.z_list (by decide +kernel)) (pe_tyN (by rfl) T.z_tuple (by decide +kernel))))) (bw_one_or (bv_cmp op_gt c_gt (ev_callB call_len b_len (by rfl) T.z_len (by decide +kernel) (av_cons (ev_var 0 (pv 0)) av_nil)) ev_int (nomark _)))))
     (sv_one (sv_ret ev_bl))
     sv_nil)
    (sv_one (sv_ret (ev_cmp (op_eqA hr.u64) c_eq (ev_vL (ef_comp (own := [("_law_row", 1)]) rfl sc_plan_good.nd (iv_seq (ev_var 0 (pv 0))) (blkOk_by (own := [("_law_row", 1)]) (N := N_plan_good) (sc := defScope s_plan_good) (by decide +kernel)) (fun _ _ _ _ _ => (gv_nm 1 sc_plan_good.nd rfl (.inl rfl))) (fun _ _ _ _ _ => (tv_one (bv_not (bv_tru (ev_call (ps := P_row_good) ((ok_row_good T hS).mono (by decide)) hr (by rfl) T.g_row_good T.F_row_good.kp T.b_row_good .nil (fun _ _ => Reps.nil) pass_ (av_cons (ev_var 1 (pv 1)) av_nil)))))) (fun _ _ _ _ _ => (ev_var 1 (pv 1))))) (ev_vL (ef_lst av_nil)) (nomark _)))))
theorem ok_law (T : Tops K w mg A F) (hS : SysN base) : FnG P w K mg base CX0 10 (A 40) (F 40) P_law (spF K mg 1 f_law) :=
  def_ok T.F_law sc_law (by decide) fun cdv A0 outer s H E hr =>
    (sv_cons (sv_for PassesOwn.never rfl (iv_range1 (by rfl) T.z_range (ev_callB (call_max2 rfl) b_max2 (by rfl) T.z_max (by decide +kernel) (av_cons ev_int (av_cons (ev_callB (call_min2 rfl) b_min2 (by rfl) T.z_min (by decide +kernel) (av_cons ev_int (av_cons (ev_callB call_len b_len (by rfl) T.z_len (by decide +kernel) (av_cons (ev_var 0 (pv 0)) av_nil)) av_nil))) av_nil)))) (gv_nm 1 sc_law.nd rfl (.inl rfl))
     (sv_cons (sv_set 2 sc_law.nd rfl (.inl rfl) (ev_call (ps := P_purse) ((ok_purse T hS).mono (by decide)) hr (by rfl) T.g_purse T.F_purse.kp T.b_purse .nil (fun _ _ => Reps.nil) pass_ (av_cons (ev_call (ps := P_cell) ((ok_cell T hS).mono (by decide)) hr (by rfl) T.g_cell T.F_cell.kp T.b_cell .nil (fun _ _ => Reps.nil) pass_ (av_cons (ev_var 0 (pv 0)) (av_cons (ev_var 1 (pv 1)) av_nil))) av_nil)))
     (sv_cons (sv_set 3 sc_law.nd rfl (.inl rfl) (ev_call (ps := P_plan) ((ok_plan T hS).mono (by decide)) hr (by rfl) T.g_plan T.F_plan.kp T.b_plan .nil (fun _ _ => Reps.nil) pass_ (av_cons (ev_var 2 (pv 2)) (av_cons (ev_call (ps := P_size) ((ok_size T hS).mono (by decide)) hr (by rfl) T.g_size T.F_size.kp T.b_size .nil (fun _ _ => Reps.nil) pass_ (av_cons (ev_var 2 (pv 2)) av_nil)) av_nil))))
     (sv_cons (sv_if (bv_cmp op_isNotA c_isNot (ev_call (ps := P_is_plan) ((ok_is_plan T hS).mono (by decide)) hr (by rfl) T.g_is_plan T.F_is_plan.kp T.b_is_plan .nil (fun _ _ => Reps.nil) pass_ (av_cons (ev_var 3 (pv 3)) av_nil)) ev_bl (nomark _))
      (sv_one (sv_ret ev_bl))
      sv_nil)
     (sv_cons (sv_for PassesOwn.never rfl (iv_range1 (by rfl) T.z_range ev_int) (gv_nm 4 sc_law.nd rfl (.inl rfl))
      (sv_cons (sv_set 5 sc_law.nd rfl (.inl rfl) (ev_var 3 (pv 3)))
      (sv_cons (sv_for PassesOwn.never rfl (iv_range1 (by rfl) T.z_range (ev_add ev_int (ev_call (ps := P_take) ((ok_take T hS).mono (by decide)) hr (by rfl) T.g_take T.F_take.kp T.b_take .nil (fun _ _ => Reps.nil) pass_ (av_cons (ev_var 2 (pv 2)) (av_cons ev_int av_nil))))) (gv_nm 6 sc_law.nd rfl (.inl rfl))
       (sv_one (sv_if (bv_tru (ev_call (ps := P_may_spoil) ((ok_may_spoil T hS).mono (by decide)) hr (by rfl) T.g_may_spoil T.F_may_spoil.kp T.b_may_spoil .nil (fun _ _ => Reps.nil) pass_ (av_cons (ev_var 5 (pv 5)) av_nil)))
        (sv_one (sv_set 5 sc_law.nd rfl (.inl rfl) (ev_call (ps := P_spoilt) ((ok_spoilt T hS).mono (by decide)) hr (by rfl) T.g_spoilt T.F_spoilt.kp T.b_spoilt .nil (fun _ _ => Reps.nil) pass_ (av_cons (ev_var 2 (pv 2)) (av_cons (ev_var 5 (pv 5)) av_nil)))))
        sv_nil)))
      (sv_cons (sv_set 7 sc_law.nd rfl (.inl rfl) (ev_callB (call_repr hS hr) b_repr (by rfl) T.z_repr (by decide +kernel) (av_cons (ev_var 5 (pv 5)) av_nil)))
      (sv_cons (sv_set 8 sc_law.nd rfl (.inl rfl) (ev_callB (call_repr hS hr) b_repr (by rfl) T.z_repr (by decide +kernel) (av_cons (ev_call (ps := P_plan_good) ((ok_plan_good T hS).mono (by decide)) hr (by rfl) T.g_plan_good T.F_plan_good.kp T.b_plan_good .nil (fun _ _ => Reps.nil) pass_ (av_cons (ev_var 5 (pv 5)) av_nil)) av_nil)))
      (sv_cons (sv_if (L2.PW.pt (bw_or (bv_cmp (op_neA hr.u64) c_ne (ev_callB (call_repr hS hr) b_repr (by rfl) T.z_repr (by decide +kernel) (av_cons (ev_call (ps := P_is_plan) ((ok_is_plan T hS).mono (by decide)) hr (by rfl) T.g_is_plan T.F_is_plan.kp T.b_is_plan .nil (fun _ _ => Reps.nil) pass_ (av_cons (ev_var 5 (pv 5)) av_nil)) av_nil)) (ev_var 8 (pv 8)) (nomark _)) (bw_or (bv_cmp (op_neA hr.u64) c_ne (ev_callB (call_repr hS hr) b_repr (by rfl) T.z_repr (by decide +kernel) (av_cons (ev_call (ps := P_is_plan) ((ok_is_plan T hS).mono (by decide)) hr (by rfl) T.g_is_plan T.F_is_plan.kp T.b_is_plan .nil (fun _ _ => Reps.nil) pass_ (av_cons (ev_var 5 (pv 5)) av_nil)) av_nil)) (ev_var 8 (pv 8)) (nomark _)) (bw_one_or (bv_cmp (op_neA hr.u64) c_ne (ev_callB (call_repr hS hr) b_repr (by rfl) T.z_repr (by decide +kernel) (av_cons (ev_var 5 (pv 5)) av_nil)) (ev_var 7 (pv 7)) (nomark _))))))
       (sv_one (sv_ret ev_bl))
       sv_nil)
      (sv_one (sv_if (L2.PW.pt (bw_and (bv_tru (ev_isi .lst (ev_var 5 (pv 5)) (by rfl) T.z_isinstance (pe_tyN (by rfl) T.z_list (by decide +kernel)))) (bw_one_and (bv_cmp (op_neA hr.u64) c_ne (ev_callB (call_repr hS hr) b_repr (by rfl) T.z_repr (by decide +kernel) (av_cons (ev_call (ps := P_is_plan) ((ok_is_plan T hS).mono (by decide)) hr (by rfl) T.g_is_plan T.F_is_plan.kp T.b_is_plan .nil (fun _ _ => Reps.nil) pass_ (av_cons (ev_callT call_tuple_of b_tuple (by rfl) T.z_tuple (by decide +kernel) (av_cons (ev_var 5 (pv 5)) av_nil)) av_nil)) av_nil)) (ev_var 8 (pv 8)) (nomark _)))))
       (sv_one (sv_ret ev_bl))
       sv_nil))))))))
     (sv_one (sv_if (bv_cmp op_isNotA c_isNot (ev_call (ps := P_is_plan) ((ok_is_plan T hS).mono (by decide)) hr (by rfl) T.g_is_plan T.F_is_plan.kp T.b_is_plan .nil (fun _ _ => Reps.nil) pass_ (av_cons (ev_var 3 (pv 3)) av_nil)) ev_bl (nomark _))
      (sv_one (sv_ret ev_bl))
      sv_nil)))))))
    (sv_one (sv_ret ev_bl)))
end
end G_k74

set_option Elab.async false
set_option linter.all false
set_option maxRecDepth 100000
set_option maxHeartbeats 4000000
set_option exponentiation.threshold 20000
namespace G_k74
open PySem PySem.Spec PyProof.Rows L2 FL
theorem all_mk {l : PySem.W.OpenLaw} {w : World} {K : PySem.W.Frag} {h : Heap} {mg : Str → Option Value} {fa : Addr} (X : K.In h) (G : h.Ns mainGlobals mg) (hfa : mg "law" = some (.ref fa))
    {f0 : Addr} {od0 an0 : Option Addr} {sl0 : Array (Option Value)} {oc0 kV0 dc0 pm0 cd0 ct0 : Value}
    {f1 : Addr} {od1 an1 : Option Addr} {sl1 : Array (Option Value)} {oc1 kV1 dc1 pm1 cd1 ct1 : Value}
    {f2 : Addr} {od2 an2 : Option Addr} {sl2 : Array (Option Value)} {oc2 kV2 dc2 pm2 cd2 ct2 : Value}
    {f3 : Addr} {od3 an3 : Option Addr} {sl3 : Array (Option Value)} {oc3 kV3 dc3 pm3 cd3 ct3 : Value}
    {f4 : Addr} {od4 an4 : Option Addr} {sl4 : Array (Option Value)} {oc4 kV4 dc4 pm4 cd4 ct4 : Value}
    {f5 : Addr} {od5 an5 : Option Addr} {sl5 : Array (Option Value)} {oc5 kV5 dc5 pm5 cd5 ct5 : Value}
    {f6 : Addr} {od6 an6 : Option Addr} {sl6 : Array (Option Value)} {oc6 kV6 dc6 pm6 cd6 ct6 : Value}
    {f7 : Addr} {od7 an7 : Option Addr} {sl7 : Array (Option Value)} {oc7 kV7 dc7 pm7 cd7 ct7 : Value}
    {f8 : Addr} {od8 an8 : Option Addr} {sl8 : Array (Option Value)} {oc8 kV8 dc8 pm8 cd8 ct8 : Value}
    {f9 : Addr} {od9 an9 : Option Addr} {sl9 : Array (Option Value)} {oc9 kV9 dc9 pm9 cd9 ct9 : Value}
    {f10 : Addr} {od10 an10 : Option Addr} {sl10 : Array (Option Value)} {oc10 kV10 dc10 pm10 cd10 ct10 : Value}
    {f11 : Addr} {od11 an11 : Option Addr} {sl11 : Array (Option Value)} {oc11 kV11 dc11 pm11 cd11 ct11 : Value}
    {f12 : Addr} {od12 an12 : Option Addr} {sl12 : Array (Option Value)} {oc12 kV12 dc12 pm12 cd12 ct12 : Value}
    {f13 : Addr} {od13 an13 : Option Addr} {sl13 : Array (Option Value)} {oc13 kV13 dc13 pm13 cd13 ct13 : Value}
    {f14 : Addr} {od14 an14 : Option Addr} {sl14 : Array (Option Value)} {oc14 kV14 dc14 pm14 cd14 ct14 : Value}
    {f15 : Addr} {od15 an15 : Option Addr} {sl15 : Array (Option Value)} {oc15 kV15 dc15 pm15 cd15 ct15 : Value}
    {f16 : Addr} {od16 an16 : Option Addr} {sl16 : Array (Option Value)} {oc16 kV16 dc16 pm16 cd16 ct16 : Value}
    {f17 : Addr} {od17 an17 : Option Addr} {sl17 : Array (Option Value)} {oc17 kV17 dc17 pm17 cd17 ct17 : Value}
    {f18 : Addr} {od18 an18 : Option Addr} {sl18 : Array (Option Value)} {oc18 kV18 dc18 pm18 cd18 ct18 : Value}
    {f19 : Addr} {od19 an19 : Option Addr} {sl19 : Array (Option Value)} {oc19 kV19 dc19 pm19 cd19 ct19 : Value}
    {f20 : Addr} {od20 an20 : Option Addr} {sl20 : Array (Option Value)} {oc20 kV20 dc20 pm20 cd20 ct20 : Value}
    {f21 : Addr} {od21 an21 : Option Addr} {sl21 : Array (Option Value)} {oc21 kV21 dc21 pm21 cd21 ct21 : Value}
    {f22 : Addr} {od22 an22 : Option Addr} {sl22 : Array (Option Value)} {oc22 kV22 dc22 pm22 cd22 ct22 : Value}
    {f23 : Addr} {od23 an23 : Option Addr} {sl23 : Array (Option Value)} {oc23 kV23 dc23 pm23 cd23 ct23 : Value}
    {f24 : Addr} {od24 an24 : Option Addr} {sl24 : Array (Option Value)} {oc24 kV24 dc24 pm24 cd24 ct24 : Value}
    {f25 : Addr} {od25 an25 : Option Addr} {sl25 : Array (Option Value)} {oc25 kV25 dc25 pm25 cd25 ct25 : Value}
    {f26 : Addr} {od26 an26 : Option Addr} {sl26 : Array (Option Value)} {oc26 kV26 dc26 pm26 cd26 ct26 : Value}
    {f27 : Addr} {od27 an27 : Option Addr} {sl27 : Array (Option Value)} {oc27 kV27 dc27 pm27 cd27 ct27 : Value}
    {f28 : Addr} {od28 an28 : Option Addr} {sl28 : Array (Option Value)} {oc28 kV28 dc28 pm28 cd28 ct28 : Value}
    {f29 : Addr} {od29 an29 : Option Addr} {sl29 : Array (Option Value)} {oc29 kV29 dc29 pm29 cd29 ct29 : Value}
    {f30 : Addr} {od30 an30 : Option Addr} {sl30 : Array (Option Value)} {oc30 kV30 dc30 pm30 cd30 ct30 : Value}
    {f31 : Addr} {od31 an31 : Option Addr} {sl31 : Array (Option Value)} {oc31 kV31 dc31 pm31 cd31 ct31 : Value}
    {f32 : Addr} {od32 an32 : Option Addr} {sl32 : Array (Option Value)} {oc32 kV32 dc32 pm32 cd32 ct32 : Value}
    {f33 : Addr} {od33 an33 : Option Addr} {sl33 : Array (Option Value)} {oc33 kV33 dc33 pm33 cd33 ct33 : Value}
    {f34 : Addr} {od34 an34 : Option Addr} {sl34 : Array (Option Value)} {oc34 kV34 dc34 pm34 cd34 ct34 : Value}
    {f35 : Addr} {od35 an35 : Option Addr} {sl35 : Array (Option Value)} {oc35 kV35 dc35 pm35 cd35 ct35 : Value}
    {f36 : Addr} {od36 an36 : Option Addr} {sl36 : Array (Option Value)} {oc36 kV36 dc36 pm36 cd36 ct36 : Value}
    {f37 : Addr} {od37 an37 : Option Addr} {sl37 : Array (Option Value)} {oc37 kV37 dc37 pm37 cd37 ct37 : Value}
    {f38 : Addr} {od38 an38 : Option Addr} {sl38 : Array (Option Value)} {oc38 kV38 dc38 pm38 cd38 ct38 : Value}
    {f39 : Addr} {od39 an39 : Option Addr} {sl39 : Array (Option Value)} {oc39 kV39 dc39 pm39 cd39 ct39 : Value}
    {f40 : Addr} {od40 an40 : Option Addr} {sl40 : Array (Option Value)} {oc40 kV40 dc40 pm40 cd40 ct40 : Value}
    {d_FITS : Addr} {es_FITS : Array DictEntry} {n_FITS : Nat}
    {u_GREATEST : Tok}
    {u_LETTERS : Tok}
    {u_LONGEST : Tok}
    {t_MANNERS : Addr} {to_MANNERS : Option Addr} {ti_MANNERS : Array Value} {tn_MANNERS : Nat} {ts_MANNERS : Array (Option Value)}
    {u_MOST_MOST : Tok}
    {u_MOST_ROUND : Tok}
    {u_MOST_ROWS : Tok}
    {u_MOST_TERMS : Tok}
    {d_SHAPES : Addr} {es_SHAPES : Array DictEntry} {n_SHAPES : Nat}
    {t_SHAPES0 : Addr} {to_SHAPES0 : Option Addr} {ti_SHAPES0 : Array Value} {tn_SHAPES0 : Nat} {ts_SHAPES0 : Array (Option Value)}
    {t_SHAPES1 : Addr} {to_SHAPES1 : Option Addr} {ti_SHAPES1 : Array Value} {tn_SHAPES1 : Nat} {ts_SHAPES1 : Array (Option Value)}
    {t_SHAPES2 : Addr} {to_SHAPES2 : Option Addr} {ti_SHAPES2 : Array Value} {tn_SHAPES2 : Nat} {ts_SHAPES2 : Array (Option Value)}
    {t_SHAPES3 : Addr} {to_SHAPES3 : Option Addr} {ti_SHAPES3 : Array Value} {tn_SHAPES3 : Nat} {ts_SHAPES3 : Array (Option Value)}
    {t_SHAPES4 : Addr} {to_SHAPES4 : Option Addr} {ti_SHAPES4 : Array Value} {tn_SHAPES4 : Nat} {ts_SHAPES4 : Array (Option Value)}
    {t_SHAPES5 : Addr} {to_SHAPES5 : Option Addr} {ti_SHAPES5 : Array Value} {tn_SHAPES5 : Nat} {ts_SHAPES5 : Array (Option Value)}
    {t_SHAPES6 : Addr} {to_SHAPES6 : Option Addr} {ti_SHAPES6 : Array Value} {tn_SHAPES6 : Nat} {ts_SHAPES6 : Array (Option Value)}
    (a0 : PySem.W.nsIn K mainGlobals "is_number" = some (some (.ref f0)))
    (l0 : K.lookup f0 = some ⟨oc0, od0, .func (PySem.W.fnOf "is_number" "is_number" (defArgs s_is_number) (defBody s_is_number) (defScope s_is_number) .none kV0 dc0 pm0 an0 cd0 ct0), sl0⟩)
    (c0 : PySem.W.codeIn K cd0 "is_number" = true)
    (k0 : PySem.W.keepIn K (.ref f0) = true)
    (a1 : PySem.W.nsIn K mainGlobals "is_whole" = some (some (.ref f1)))
    (l1 : K.lookup f1 = some ⟨oc1, od1, .func (PySem.W.fnOf "is_whole" "is_whole" (defArgs s_is_whole) (defBody s_is_whole) (defScope s_is_whole) .none kV1 dc1 pm1 an1 cd1 ct1), sl1⟩)
    (c1 : PySem.W.codeIn K cd1 "is_whole" = true)
    (k1 : PySem.W.keepIn K (.ref f1) = true)
    (a2 : PySem.W.nsIn K mainGlobals "has_only" = some (some (.ref f2)))
    (l2 : K.lookup f2 = some ⟨oc2, od2, .func (PySem.W.fnOf "has_only" "has_only" (defArgs s_has_only) (defBody s_has_only) (defScope s_has_only) .none kV2 dc2 pm2 an2 cd2 ct2), sl2⟩)
    (c2 : PySem.W.codeIn K cd2 "has_only" = true)
    (k2 : PySem.W.keepIn K (.ref f2) = true)
    (a3 : PySem.W.nsIn K mainGlobals "is_name" = some (some (.ref f3)))
    (l3 : K.lookup f3 = some ⟨oc3, od3, .func (PySem.W.fnOf "is_name" "is_name" (defArgs s_is_name) (defBody s_is_name) (defScope s_is_name) .none kV3 dc3 pm3 an3 cd3 ct3), sl3⟩)
    (c3 : PySem.W.codeIn K cd3 "is_name" = true)
    (k3 : PySem.W.keepIn K (.ref f3) = true)
    (a4 : PySem.W.nsIn K mainGlobals "is_manner" = some (some (.ref f4)))
    (l4 : K.lookup f4 = some ⟨oc4, od4, .func (PySem.W.fnOf "is_manner" "is_manner" (defArgs s_is_manner) (defBody s_is_manner) (defScope s_is_manner) .none kV4 dc4 pm4 an4 cd4 ct4), sl4⟩)
    (c4 : PySem.W.codeIn K cd4 "is_manner" = true)
    (k4 : PySem.W.keepIn K (.ref f4) = true)
    (a5 : PySem.W.nsIn K mainGlobals "is_short" = some (some (.ref f5)))
    (l5 : K.lookup f5 = some ⟨oc5, od5, .func (PySem.W.fnOf "is_short" "is_short" (defArgs s_is_short) (defBody s_is_short) (defScope s_is_short) .none kV5 dc5 pm5 an5 cd5 ct5), sl5⟩)
    (c5 : PySem.W.codeIn K cd5 "is_short" = true)
    (k5 : PySem.W.keepIn K (.ref f5) = true)
    (a6 : PySem.W.nsIn K mainGlobals "is_most" = some (some (.ref f6)))
    (l6 : K.lookup f6 = some ⟨oc6, od6, .func (PySem.W.fnOf "is_most" "is_most" (defArgs s_is_most) (defBody s_is_most) (defScope s_is_most) .none kV6 dc6 pm6 an6 cd6 ct6), sl6⟩)
    (c6 : PySem.W.codeIn K cd6 "is_most" = true)
    (k6 : PySem.W.keepIn K (.ref f6) = true)
    (a7 : PySem.W.nsIn K mainGlobals "are_so_many" = some (some (.ref f7)))
    (l7 : K.lookup f7 = some ⟨oc7, od7, .func (PySem.W.fnOf "are_so_many" "are_so_many" (defArgs s_are_so_many) (defBody s_are_so_many) (defScope s_are_so_many) .none kV7 dc7 pm7 an7 cd7 ct7), sl7⟩)
    (c7 : PySem.W.codeIn K cd7 "are_so_many" = true)
    (k7 : PySem.W.keepIn K (.ref f7) = true)
    (a8 : PySem.W.nsIn K mainGlobals "are_terms" = some (some (.ref f8)))
    (l8 : K.lookup f8 = some ⟨oc8, od8, .func (PySem.W.fnOf "are_terms" "are_terms" (defArgs s_are_terms) (defBody s_are_terms) (defScope s_are_terms) .none kV8 dc8 pm8 an8 cd8 ct8), sl8⟩)
    (c8 : PySem.W.codeIn K cd8 "are_terms" = true)
    (k8 : PySem.W.keepIn K (.ref f8) = true)
    (a9 : PySem.W.nsIn K mainGlobals "is_round" = some (some (.ref f9)))
    (l9 : K.lookup f9 = some ⟨oc9, od9, .func (PySem.W.fnOf "is_round" "is_round" (defArgs s_is_round) (defBody s_is_round) (defScope s_is_round) .none kV9 dc9 pm9 an9 cd9 ct9), sl9⟩)
    (c9 : PySem.W.codeIn K cd9 "is_round" = true)
    (k9 : PySem.W.keepIn K (.ref f9) = true)
    (a10 : PySem.W.nsIn K mainGlobals "are_steps" = some (some (.ref f10)))
    (l10 : K.lookup f10 = some ⟨oc10, od10, .func (PySem.W.fnOf "are_steps" "are_steps" (defArgs s_are_steps) (defBody s_are_steps) (defScope s_are_steps) .none kV10 dc10 pm10 an10 cd10 ct10), sl10⟩)
    (c10 : PySem.W.codeIn K cd10 "are_steps" = true)
    (k10 : PySem.W.keepIn K (.ref f10) = true)
    (a11 : PySem.W.nsIn K mainGlobals "are_two" = some (some (.ref f11)))
    (l11 : K.lookup f11 = some ⟨oc11, od11, .func (PySem.W.fnOf "are_two" "are_two" (defArgs s_are_two) (defBody s_are_two) (defScope s_are_two) .none kV11 dc11 pm11 an11 cd11 ct11), sl11⟩)
    (c11 : PySem.W.codeIn K cd11 "are_two" = true)
    (k11 : PySem.W.keepIn K (.ref f11) = true)
    (a12 : PySem.W.nsIn K mainGlobals "are_four" = some (some (.ref f12)))
    (l12 : K.lookup f12 = some ⟨oc12, od12, .func (PySem.W.fnOf "are_four" "are_four" (defArgs s_are_four) (defBody s_are_four) (defScope s_are_four) .none kV12 dc12 pm12 an12 cd12 ct12), sl12⟩)
    (c12 : PySem.W.codeIn K cd12 "are_four" = true)
    (k12 : PySem.W.keepIn K (.ref f12) = true)
    (a13 : PySem.W.nsIn K mainGlobals "are_eight" = some (some (.ref f13)))
    (l13 : K.lookup f13 = some ⟨oc13, od13, .func (PySem.W.fnOf "are_eight" "are_eight" (defArgs s_are_eight) (defBody s_are_eight) (defScope s_are_eight) .none kV13 dc13 pm13 an13 cd13 ct13), sl13⟩)
    (c13 : PySem.W.codeIn K cd13 "are_eight" = true)
    (k13 : PySem.W.keepIn K (.ref f13) = true)
    (a14 : PySem.W.nsIn K mainGlobals "fits" = some (some (.ref f14)))
    (l14 : K.lookup f14 = some ⟨oc14, od14, .func (PySem.W.fnOf "fits" "fits" (defArgs s_fits) (defBody s_fits) (defScope s_fits) .none kV14 dc14 pm14 an14 cd14 ct14), sl14⟩)
    (c14 : PySem.W.codeIn K cd14 "fits" = true)
    (k14 : PySem.W.keepIn K (.ref f14) = true)
    (a15 : PySem.W.nsIn K mainGlobals "is_plan_row" = some (some (.ref f15)))
    (l15 : K.lookup f15 = some ⟨oc15, od15, .func (PySem.W.fnOf "is_plan_row" "is_plan_row" (defArgs s_is_plan_row) (defBody s_is_plan_row) (defScope s_is_plan_row) .none kV15 dc15 pm15 an15 cd15 ct15), sl15⟩)
    (c15 : PySem.W.codeIn K cd15 "is_plan_row" = true)
    (k15 : PySem.W.keepIn K (.ref f15) = true)
    (a16 : PySem.W.nsIn K mainGlobals "are_rows" = some (some (.ref f16)))
    (l16 : K.lookup f16 = some ⟨oc16, od16, .func (PySem.W.fnOf "are_rows" "are_rows" (defArgs s_are_rows) (defBody s_are_rows) (defScope s_are_rows) .none kV16 dc16 pm16 an16 cd16 ct16), sl16⟩)
    (c16 : PySem.W.codeIn K cd16 "are_rows" = true)
    (k16 : PySem.W.keepIn K (.ref f16) = true)
    (a17 : PySem.W.nsIn K mainGlobals "is_plan" = some (some (.ref f17)))
    (l17 : K.lookup f17 = some ⟨oc17, od17, .func (PySem.W.fnOf "is_plan" "is_plan" (defArgs s_is_plan) (defBody s_is_plan) (defScope s_is_plan) .none kV17 dc17 pm17 an17 cd17 ct17), sl17⟩)
    (c17 : PySem.W.codeIn K cd17 "is_plan" = true)
    (k17 : PySem.W.keepIn K (.ref f17) = true)
    (a18 : PySem.W.nsIn K mainGlobals "_law_cell" = some (some (.ref f18)))
    (l18 : K.lookup f18 = some ⟨oc18, od18, .func (PySem.W.fnOf "_law_cell" "_law_cell" (defArgs s_cell) (defBody s_cell) (defScope s_cell) .none kV18 dc18 pm18 an18 cd18 ct18), sl18⟩)
    (c18 : PySem.W.codeIn K cd18 "_law_cell" = true)
    (k18 : PySem.W.keepIn K (.ref f18) = true)
    (a19 : PySem.W.nsIn K mainGlobals "_law_purse" = some (some (.ref f19)))
    (l19 : K.lookup f19 = some ⟨oc19, od19, .func (PySem.W.fnOf "_law_purse" "_law_purse" (defArgs s_purse) (defBody s_purse) (defScope s_purse) .none kV19 dc19 pm19 an19 cd19 ct19), sl19⟩)
    (c19 : PySem.W.codeIn K cd19 "_law_purse" = true)
    (k19 : PySem.W.keepIn K (.ref f19) = true)
    (a20 : PySem.W.nsIn K mainGlobals "_law_take" = some (some (.ref f20)))
    (l20 : K.lookup f20 = some ⟨oc20, od20, .func (PySem.W.fnOf "_law_take" "_law_take" (defArgs s_take) (defBody s_take) (defScope s_take) .none kV20 dc20 pm20 an20 cd20 ct20), sl20⟩)
    (c20 : PySem.W.codeIn K cd20 "_law_take" = true)
    (k20 : PySem.W.keepIn K (.ref f20) = true)
    (a21 : PySem.W.nsIn K mainGlobals "_law_names" = some (some (.ref f21)))
    (l21 : K.lookup f21 = some ⟨oc21, od21, .func (PySem.W.fnOf "_law_names" "_law_names" (defArgs s_names) (defBody s_names) (defScope s_names) .none kV21 dc21 pm21 an21 cd21 ct21), sl21⟩)
    (c21 : PySem.W.codeIn K cd21 "_law_names" = true)
    (k21 : PySem.W.keepIn K (.ref f21) = true)
    (a22 : PySem.W.nsIn K mainGlobals "_law_legal" = some (some (.ref f22)))
    (l22 : K.lookup f22 = some ⟨oc22, od22, .func (PySem.W.fnOf "_law_legal" "_law_legal" (defArgs s_legal) (defBody s_legal) (defScope s_legal) .none kV22 dc22 pm22 an22 cd22 ct22), sl22⟩)
    (c22 : PySem.W.codeIn K cd22 "_law_legal" = true)
    (k22 : PySem.W.keepIn K (.ref f22) = true)
    (a23 : PySem.W.nsIn K mainGlobals "_law_source" = some (some (.ref f23)))
    (l23 : K.lookup f23 = some ⟨oc23, od23, .func (PySem.W.fnOf "_law_source" "_law_source" (defArgs s_source) (defBody s_source) (defScope s_source) .none kV23 dc23 pm23 an23 cd23 ct23), sl23⟩)
    (c23 : PySem.W.codeIn K cd23 "_law_source" = true)
    (k23 : PySem.W.keepIn K (.ref f23) = true)
    (a24 : PySem.W.nsIn K mainGlobals "_law_four" = some (some (.ref f24)))
    (l24 : K.lookup f24 = some ⟨oc24, od24, .func (PySem.W.fnOf "_law_four" "_law_four" (defArgs s_four) (defBody s_four) (defScope s_four) .none kV24 dc24 pm24 an24 cd24 ct24), sl24⟩)
    (c24 : PySem.W.codeIn K cd24 "_law_four" = true)
    (k24 : PySem.W.keepIn K (.ref f24) = true)
    (a25 : PySem.W.nsIn K mainGlobals "_law_eight" = some (some (.ref f25)))
    (l25 : K.lookup f25 = some ⟨oc25, od25, .func (PySem.W.fnOf "_law_eight" "_law_eight" (defArgs s_eight) (defBody s_eight) (defScope s_eight) .none kV25 dc25 pm25 an25 cd25 ct25), sl25⟩)
    (c25 : PySem.W.codeIn K cd25 "_law_eight" = true)
    (k25 : PySem.W.keepIn K (.ref f25) = true)
    (a26 : PySem.W.nsIn K mainGlobals "_law_machine" = some (some (.ref f26)))
    (l26 : K.lookup f26 = some ⟨oc26, od26, .func (PySem.W.fnOf "_law_machine" "_law_machine" (defArgs s_machine) (defBody s_machine) (defScope s_machine) .none kV26 dc26 pm26 an26 cd26 ct26), sl26⟩)
    (c26 : PySem.W.codeIn K cd26 "_law_machine" = true)
    (k26 : PySem.W.keepIn K (.ref f26) = true)
    (a27 : PySem.W.nsIn K mainGlobals "_law_plan" = some (some (.ref f27)))
    (l27 : K.lookup f27 = some ⟨oc27, od27, .func (PySem.W.fnOf "_law_plan" "_law_plan" (defArgs s_plan) (defBody s_plan) (defScope s_plan) .none kV27 dc27 pm27 an27 cd27 ct27), sl27⟩)
    (c27 : PySem.W.codeIn K cd27 "_law_plan" = true)
    (k27 : PySem.W.keepIn K (.ref f27) = true)
    (a28 : PySem.W.nsIn K mainGlobals "_law_size" = some (some (.ref f28)))
    (l28 : K.lookup f28 = some ⟨oc28, od28, .func (PySem.W.fnOf "_law_size" "_law_size" (defArgs s_size) (defBody s_size) (defScope s_size) .none kV28 dc28 pm28 an28 cd28 ct28), sl28⟩)
    (c28 : PySem.W.codeIn K cd28 "_law_size" = true)
    (k28 : PySem.W.keepIn K (.ref f28) = true)
    (a29 : PySem.W.nsIn K mainGlobals "_law_short" = some (some (.ref f29)))
    (l29 : K.lookup f29 = some ⟨oc29, od29, .func (PySem.W.fnOf "_law_short" "_law_short" (defArgs s_short) (defBody s_short) (defScope s_short) .none kV29 dc29 pm29 an29 cd29 ct29), sl29⟩)
    (c29 : PySem.W.codeIn K cd29 "_law_short" = true)
    (k29 : PySem.W.keepIn K (.ref f29) = true)
    (a30 : PySem.W.nsIn K mainGlobals "_law_called" = some (some (.ref f30)))
    (l30 : K.lookup f30 = some ⟨oc30, od30, .func (PySem.W.fnOf "_law_called" "_law_called" (defArgs s_called) (defBody s_called) (defScope s_called) .none kV30 dc30 pm30 an30 cd30 ct30), sl30⟩)
    (c30 : PySem.W.codeIn K cd30 "_law_called" = true)
    (k30 : PySem.W.keepIn K (.ref f30) = true)
    (a31 : PySem.W.nsIn K mainGlobals "_law_numbers" = some (some (.ref f31)))
    (l31 : K.lookup f31 = some ⟨oc31, od31, .func (PySem.W.fnOf "_law_numbers" "_law_numbers" (defArgs s_numbers) (defBody s_numbers) (defScope s_numbers) .none kV31 dc31 pm31 an31 cd31 ct31), sl31⟩)
    (c31 : PySem.W.codeIn K cd31 "_law_numbers" = true)
    (k31 : PySem.W.keepIn K (.ref f31) = true)
    (a32 : PySem.W.nsIn K mainGlobals "_law_word" = some (some (.ref f32)))
    (l32 : K.lookup f32 = some ⟨oc32, od32, .func (PySem.W.fnOf "_law_word" "_law_word" (defArgs s_word) (defBody s_word) (defScope s_word) .none kV32 dc32 pm32 an32 cd32 ct32), sl32⟩)
    (c32 : PySem.W.codeIn K cd32 "_law_word" = true)
    (k32 : PySem.W.keepIn K (.ref f32) = true)
    (a33 : PySem.W.nsIn K mainGlobals "_law_most" = some (some (.ref f33)))
    (l33 : K.lookup f33 = some ⟨oc33, od33, .func (PySem.W.fnOf "_law_most" "_law_most" (defArgs s_most) (defBody s_most) (defScope s_most) .none kV33 dc33 pm33 an33 cd33 ct33), sl33⟩)
    (c33 : PySem.W.codeIn K cd33 "_law_most" = true)
    (k33 : PySem.W.keepIn K (.ref f33) = true)
    (a34 : PySem.W.nsIn K mainGlobals "_law_two_rows" = some (some (.ref f34)))
    (l34 : K.lookup f34 = some ⟨oc34, od34, .func (PySem.W.fnOf "_law_two_rows" "_law_two_rows" (defArgs s_two_rows) (defBody s_two_rows) (defScope s_two_rows) .none kV34 dc34 pm34 an34 cd34 ct34), sl34⟩)
    (c34 : PySem.W.codeIn K cd34 "_law_two_rows" = true)
    (k34 : PySem.W.keepIn K (.ref f34) = true)
    (a35 : PySem.W.nsIn K mainGlobals "_law_row_good" = some (some (.ref f35)))
    (l35 : K.lookup f35 = some ⟨oc35, od35, .func (PySem.W.fnOf "_law_row_good" "_law_row_good" (defArgs s_row_good) (defBody s_row_good) (defScope s_row_good) .none kV35 dc35 pm35 an35 cd35 ct35), sl35⟩)
    (c35 : PySem.W.codeIn K cd35 "_law_row_good" = true)
    (k35 : PySem.W.keepIn K (.ref f35) = true)
    (a36 : PySem.W.nsIn K mainGlobals "_law_plan_good" = some (some (.ref f36)))
    (l36 : K.lookup f36 = some ⟨oc36, od36, .func (PySem.W.fnOf "_law_plan_good" "_law_plan_good" (defArgs s_plan_good) (defBody s_plan_good) (defScope s_plan_good) .none kV36 dc36 pm36 an36 cd36 ct36), sl36⟩)
    (c36 : PySem.W.codeIn K cd36 "_law_plan_good" = true)
    (k36 : PySem.W.keepIn K (.ref f36) = true)
    (a37 : PySem.W.nsIn K mainGlobals "_law_spoilt_row" = some (some (.ref f37)))
    (l37 : K.lookup f37 = some ⟨oc37, od37, .func (PySem.W.fnOf "_law_spoilt_row" "_law_spoilt_row" (defArgs s_spoilt_row) (defBody s_spoilt_row) (defScope s_spoilt_row) .none kV37 dc37 pm37 an37 cd37 ct37), sl37⟩)
    (c37 : PySem.W.codeIn K cd37 "_law_spoilt_row" = true)
    (k37 : PySem.W.keepIn K (.ref f37) = true)
    (a38 : PySem.W.nsIn K mainGlobals "_law_may_spoil" = some (some (.ref f38)))
    (l38 : K.lookup f38 = some ⟨oc38, od38, .func (PySem.W.fnOf "_law_may_spoil" "_law_may_spoil" (defArgs s_may_spoil) (defBody s_may_spoil) (defScope s_may_spoil) .none kV38 dc38 pm38 an38 cd38 ct38), sl38⟩)
    (c38 : PySem.W.codeIn K cd38 "_law_may_spoil" = true)
    (k38 : PySem.W.keepIn K (.ref f38) = true)
    (a39 : PySem.W.nsIn K mainGlobals "_law_spoilt" = some (some (.ref f39)))
    (l39 : K.lookup f39 = some ⟨oc39, od39, .func (PySem.W.fnOf "_law_spoilt" "_law_spoilt" (defArgs s_spoilt) (defBody s_spoilt) (defScope s_spoilt) .none kV39 dc39 pm39 an39 cd39 ct39), sl39⟩)
    (c39 : PySem.W.codeIn K cd39 "_law_spoilt" = true)
    (k39 : PySem.W.keepIn K (.ref f39) = true)
    (a40 : PySem.W.nsIn K mainGlobals "law" = some (some (.ref f40)))
    (l40 : K.lookup f40 = some ⟨oc40, od40, .func (PySem.W.fnOf "law" "law" (defArgs s_law) (defBody s_law) (defScope s_law) .none kV40 dc40 pm40 an40 cd40 ct40), sl40⟩)
    (c40 : PySem.W.codeIn K cd40 "law" = true)
    (k40 : PySem.W.keepIn K (.ref f40) = true)
    (z_all : PySem.W.nsIn K mainGlobals "all" = some none)
    (z_bool : PySem.W.nsIn K mainGlobals "bool" = some none)
    (z_int : PySem.W.nsIn K mainGlobals "int" = some none)
    (z_isinstance : PySem.W.nsIn K mainGlobals "isinstance" = some none)
    (z_len : PySem.W.nsIn K mainGlobals "len" = some none)
    (z_list : PySem.W.nsIn K mainGlobals "list" = some none)
    (z_max : PySem.W.nsIn K mainGlobals "max" = some none)
    (z_min : PySem.W.nsIn K mainGlobals "min" = some none)
    (z_range : PySem.W.nsIn K mainGlobals "range" = some none)
    (z_repr : PySem.W.nsIn K mainGlobals "repr" = some none)
    (z_str : PySem.W.nsIn K mainGlobals "str" = some none)
    (z_tuple : PySem.W.nsIn K mainGlobals "tuple" = some none)
    (z_zip : PySem.W.nsIn K mainGlobals "zip" = some none)
    (x_FITS : PySem.W.nsIn K mainGlobals "FITS" = some (some (.ref d_FITS)))
    (ld_FITS : K.lookup d_FITS = some ⟨.type "dict", none, .dict es_FITS n_FITS, #[]⟩)
    (hd_FITS : es_FITS.toList.map He.keyOf = He.keysIn w.params ["name", "manner", "number", "most", "terms", "round", "steps", "four", "eight"])
    (nd_FITS : (d_FITS == sysModules) = false)
    (y_FITS_0 : PySem.W.nsIn K d_FITS "name" = some (some (.ref f3)))
    (y_FITS_1 : PySem.W.nsIn K d_FITS "manner" = some (some (.ref f4)))
    (y_FITS_2 : PySem.W.nsIn K d_FITS "number" = some (some (.ref f5)))
    (y_FITS_3 : PySem.W.nsIn K d_FITS "most" = some (some (.ref f6)))
    (y_FITS_4 : PySem.W.nsIn K d_FITS "terms" = some (some (.ref f8)))
    (y_FITS_5 : PySem.W.nsIn K d_FITS "round" = some (some (.ref f9)))
    (y_FITS_6 : PySem.W.nsIn K d_FITS "steps" = some (some (.ref f10)))
    (y_FITS_7 : PySem.W.nsIn K d_FITS "four" = some (some (.ref f12)))
    (y_FITS_8 : PySem.W.nsIn K d_FITS "eight" = some (some (.ref f13)))
    (x_GREATEST : PySem.W.nsIn K mainGlobals "GREATEST" = some (some (.int (999999999999999999999999999999) u_GREATEST)))
    (x_LETTERS : PySem.W.nsIn K mainGlobals "LETTERS" = some (some (.str "abcdefghijklmnopqrstuvwxyz" u_LETTERS)))
    (x_LONGEST : PySem.W.nsIn K mainGlobals "LONGEST" = some (some (.int (6) u_LONGEST)))
    (x_MANNERS : PySem.W.nsIn K mainGlobals "MANNERS" = some (some (.ref t_MANNERS)))
    (lt_MANNERS : K.lookup t_MANNERS = some ⟨.type "tuple", to_MANNERS, .seq ti_MANNERS tn_MANNERS, ts_MANNERS⟩)
    (vt_MANNERS : Vals ([.str "floor", .str "ceil", .str "near"] : List V) ti_MANNERS.toList)
    (x_MOST_MOST : PySem.W.nsIn K mainGlobals "MOST_MOST" = some (some (.int (64) u_MOST_MOST)))
    (x_MOST_ROUND : PySem.W.nsIn K mainGlobals "MOST_ROUND" = some (some (.int (20) u_MOST_ROUND)))
    (x_MOST_ROWS : PySem.W.nsIn K mainGlobals "MOST_ROWS" = some (some (.int (12) u_MOST_ROWS)))
    (x_MOST_TERMS : PySem.W.nsIn K mainGlobals "MOST_TERMS" = some (some (.int (100) u_MOST_TERMS)))
    (x_SHAPES : PySem.W.nsIn K mainGlobals "SHAPES" = some (some (.ref d_SHAPES)))
    (ld_SHAPES : K.lookup d_SHAPES = some ⟨.type "dict", none, .dict es_SHAPES n_SHAPES, #[]⟩)
    (hd_SHAPES : es_SHAPES.toList.map He.keyOf = He.keysIn w.params ["row", "ruled", "fed", "surd", "one", "two", "root"])
    (nd_SHAPES : (d_SHAPES == sysModules) = false)
    (y_SHAPES_0 : PySem.W.nsIn K d_SHAPES "row" = some (some (.ref t_SHAPES0)))
    (lt_SHAPES0 : K.lookup t_SHAPES0 = some ⟨.type "tuple", to_SHAPES0, .seq ti_SHAPES0 tn_SHAPES0, ts_SHAPES0⟩)
    (vt_SHAPES0 : Vals ([.str "name", .str "manner", .str "terms"] : List V) ti_SHAPES0.toList)
    (y_SHAPES_1 : PySem.W.nsIn K d_SHAPES "ruled" = some (some (.ref t_SHAPES1)))
    (lt_SHAPES1 : K.lookup t_SHAPES1 = some ⟨.type "tuple", to_SHAPES1, .seq ti_SHAPES1 tn_SHAPES1, ts_SHAPES1⟩)
    (vt_SHAPES1 : Vals ([.str "name", .str "manner", .str "terms", .str "round", .str "steps"] : List V) ti_SHAPES1.toList)
    (y_SHAPES_2 : PySem.W.nsIn K d_SHAPES "fed" = some (some (.ref t_SHAPES2)))
    (lt_SHAPES2 : K.lookup t_SHAPES2 = some ⟨.type "tuple", to_SHAPES2, .seq ti_SHAPES2 tn_SHAPES2, ts_SHAPES2⟩)
    (vt_SHAPES2 : Vals ([.str "name", .str "manner"] : List V) ti_SHAPES2.toList)
    (y_SHAPES_3 : PySem.W.nsIn K d_SHAPES "surd" = some (some (.ref t_SHAPES3)))
    (lt_SHAPES3 : K.lookup t_SHAPES3 = some ⟨.type "tuple", to_SHAPES3, .seq ti_SHAPES3 tn_SHAPES3, ts_SHAPES3⟩)
    (vt_SHAPES3 : Vals ([.str "name", .str "number", .str "number", .str "number"] : List V) ti_SHAPES3.toList)
    (y_SHAPES_4 : PySem.W.nsIn K d_SHAPES "one" = some (some (.ref t_SHAPES4)))
    (lt_SHAPES4 : K.lookup t_SHAPES4 = some ⟨.type "tuple", to_SHAPES4, .seq ti_SHAPES4 tn_SHAPES4, ts_SHAPES4⟩)
    (vt_SHAPES4 : Vals ([.str "name", .str "name", .str "manner", .str "most", .str "four"] : List V) ti_SHAPES4.toList)
    (y_SHAPES_5 : PySem.W.nsIn K d_SHAPES "two" = some (some (.ref t_SHAPES5)))
    (lt_SHAPES5 : K.lookup t_SHAPES5 = some ⟨.type "tuple", to_SHAPES5, .seq ti_SHAPES5 tn_SHAPES5, ts_SHAPES5⟩)
    (vt_SHAPES5 : Vals ([.str "name", .str "name", .str "name", .str "manner", .str "most", .str "eight"] : List V) ti_SHAPES5.toList)
    (y_SHAPES_6 : PySem.W.nsIn K d_SHAPES "root" = some (some (.ref t_SHAPES6)))
    (lt_SHAPES6 : K.lookup t_SHAPES6 = some ⟨.type "tuple", to_SHAPES6, .seq ti_SHAPES6 tn_SHAPES6, ts_SHAPES6⟩)
    (vt_SHAPES6 : Vals ([.str "name", .str "name", .str "most"] : List V) ti_SHAPES6.toList)
    : ∃ fd : FuncData, (∀ (s : Shared) (v : Value), BindsTo s fd ⟨[v], []⟩ [("_law_script", v)]) ∧ ∀ base : Heap, K.In base → base.Ns mainGlobals mg → SysN base → FnG l.prog w K mg base CX0 10 fa fd P_law (spF K mg 1 f_law) := by
  cases hfa.symm.trans (PySem.W.mg_of X G a40)
  have F0 := fun_mk (st := s_is_number) l0 c0 k0
  have B0 := F0.binds (ps := P_is_number) fun _ _ _ _ _ _ us hl => match us, hl with | [_], _ => rfl
  have F1 := fun_mk (st := s_is_whole) l1 c1 k1
  have B1 := F1.binds (ps := P_is_whole) fun _ _ _ _ _ _ us hl => match us, hl with | [_, _, _], _ => rfl
  have F2 := fun_mk (st := s_has_only) l2 c2 k2
  have B2 := F2.binds (ps := P_has_only) fun _ _ _ _ _ _ us hl => match us, hl with | [_, _], _ => rfl
  have F3 := fun_mk (st := s_is_name) l3 c3 k3
  have B3 := F3.binds (ps := P_is_name) fun _ _ _ _ _ _ us hl => match us, hl with | [_], _ => rfl
  have F4 := fun_mk (st := s_is_manner) l4 c4 k4
  have B4 := F4.binds (ps := P_is_manner) fun _ _ _ _ _ _ us hl => match us, hl with | [_], _ => rfl
  have F5 := fun_mk (st := s_is_short) l5 c5 k5
  have B5 := F5.binds (ps := P_is_short) fun _ _ _ _ _ _ us hl => match us, hl with | [_], _ => rfl
  have F6 := fun_mk (st := s_is_most) l6 c6 k6
  have B6 := F6.binds (ps := P_is_most) fun _ _ _ _ _ _ us hl => match us, hl with | [_], _ => rfl
  have F7 := fun_mk (st := s_are_so_many) l7 c7 k7
  have B7 := F7.binds (ps := P_are_so_many) fun _ _ _ _ _ _ us hl => match us, hl with | [_, _, _], _ => rfl
  have F8 := fun_mk (st := s_are_terms) l8 c8 k8
  have B8 := F8.binds (ps := P_are_terms) fun _ _ _ _ _ _ us hl => match us, hl with | [_], _ => rfl
  have F9 := fun_mk (st := s_is_round) l9 c9 k9
  have B9 := F9.binds (ps := P_is_round) fun _ _ _ _ _ _ us hl => match us, hl with | [_], _ => rfl
  have F10 := fun_mk (st := s_are_steps) l10 c10 k10
  have B10 := F10.binds (ps := P_are_steps) fun _ _ _ _ _ _ us hl => match us, hl with | [_], _ => rfl
  have F11 := fun_mk (st := s_are_two) l11 c11 k11
  have B11 := F11.binds (ps := P_are_two) fun _ _ _ _ _ _ us hl => match us, hl with | [_, _], _ => rfl
  have F12 := fun_mk (st := s_are_four) l12 c12 k12
  have B12 := F12.binds (ps := P_are_four) fun _ _ _ _ _ _ us hl => match us, hl with | [_], _ => rfl
  have F13 := fun_mk (st := s_are_eight) l13 c13 k13
  have B13 := F13.binds (ps := P_are_eight) fun _ _ _ _ _ _ us hl => match us, hl with | [_], _ => rfl
  have F14 := fun_mk (st := s_fits) l14 c14 k14
  have B14 := F14.binds (ps := P_fits) fun _ _ _ _ _ _ us hl => match us, hl with | [_, _], _ => rfl
  have F15 := fun_mk (st := s_is_plan_row) l15 c15 k15
  have B15 := F15.binds (ps := P_is_plan_row) fun _ _ _ _ _ _ us hl => match us, hl with | [_], _ => rfl
  have F16 := fun_mk (st := s_are_rows) l16 c16 k16
  have B16 := F16.binds (ps := P_are_rows) fun _ _ _ _ _ _ us hl => match us, hl with | [_], _ => rfl
  have F17 := fun_mk (st := s_is_plan) l17 c17 k17
  have B17 := F17.binds (ps := P_is_plan) fun _ _ _ _ _ _ us hl => match us, hl with | [_], _ => rfl
  have F18 := fun_mk (st := s_cell) l18 c18 k18
  have B18 := F18.binds (ps := P_cell) fun _ _ _ _ _ _ us hl => match us, hl with | [_, _], _ => rfl
  have F19 := fun_mk (st := s_purse) l19 c19 k19
  have B19 := F19.binds (ps := P_purse) fun _ _ _ _ _ _ us hl => match us, hl with | [_], _ => rfl
  have F20 := fun_mk (st := s_take) l20 c20 k20
  have B20 := F20.binds (ps := P_take) fun _ _ _ _ _ _ us hl => match us, hl with | [_, _], _ => rfl
  have F21 := fun_mk (st := s_names) l21 c21 k21
  have B21 := F21.binds (ps := P_names) fun _ _ _ _ _ _ us hl => match us, hl with | [_, _], _ => rfl
  have F22 := fun_mk (st := s_legal) l22 c22 k22
  have B22 := F22.binds (ps := P_legal) fun _ _ _ _ _ _ us hl => match us, hl with | [_, _], _ => rfl
  have F23 := fun_mk (st := s_source) l23 c23 k23
  have B23 := F23.binds (ps := P_source) fun _ _ _ _ _ _ us hl => match us, hl with | [_, _], _ => rfl
  have F24 := fun_mk (st := s_four) l24 c24 k24
  have B24 := F24.binds (ps := P_four) fun _ _ _ _ _ _ us hl => match us, hl with | [_], _ => rfl
  have F25 := fun_mk (st := s_eight) l25 c25 k25
  have B25 := F25.binds (ps := P_eight) fun _ _ _ _ _ _ us hl => match us, hl with | [_], _ => rfl
  have F26 := fun_mk (st := s_machine) l26 c26 k26
  have B26 := F26.binds (ps := P_machine) fun _ _ _ _ _ _ us hl => match us, hl with | [_, _, _], _ => rfl
  have F27 := fun_mk (st := s_plan) l27 c27 k27
  have B27 := F27.binds (ps := P_plan) fun _ _ _ _ _ _ us hl => match us, hl with | [_, _], _ => rfl
  have F28 := fun_mk (st := s_size) l28 c28 k28
  have B28 := F28.binds (ps := P_size) fun _ _ _ _ _ _ us hl => match us, hl with | [_], _ => rfl
  have F29 := fun_mk (st := s_short) l29 c29 k29
  have B29 := F29.binds (ps := P_short) fun _ _ _ _ _ _ us hl => match us, hl with | [_], _ => rfl
  have F30 := fun_mk (st := s_called) l30 c30 k30
  have B30 := F30.binds (ps := P_called) fun _ _ _ _ _ _ us hl => match us, hl with | [_], _ => rfl
  have F31 := fun_mk (st := s_numbers) l31 c31 k31
  have B31 := F31.binds (ps := P_numbers) fun _ _ _ _ _ _ us hl => match us, hl with | [_, _, _], _ => rfl
  have F32 := fun_mk (st := s_word) l32 c32 k32
  have B32 := F32.binds (ps := P_word) fun _ _ _ _ _ _ us hl => match us, hl with | [_], _ => rfl
  have F33 := fun_mk (st := s_most) l33 c33 k33
  have B33 := F33.binds (ps := P_most) fun _ _ _ _ _ _ us hl => match us, hl with | [_], _ => rfl
  have F34 := fun_mk (st := s_two_rows) l34 c34 k34
  have B34 := F34.binds (ps := P_two_rows) fun _ _ _ _ _ _ us hl => match us, hl with | [_, _], _ => rfl
  have F35 := fun_mk (st := s_row_good) l35 c35 k35
  have B35 := F35.binds (ps := P_row_good) fun _ _ _ _ _ _ us hl => match us, hl with | [_], _ => rfl
  have F36 := fun_mk (st := s_plan_good) l36 c36 k36
  have B36 := F36.binds (ps := P_plan_good) fun _ _ _ _ _ _ us hl => match us, hl with | [_], _ => rfl
  have F37 := fun_mk (st := s_spoilt_row) l37 c37 k37
  have B37 := F37.binds (ps := P_spoilt_row) fun _ _ _ _ _ _ us hl => match us, hl with | [_, _], _ => rfl
  have F38 := fun_mk (st := s_may_spoil) l38 c38 k38
  have B38 := F38.binds (ps := P_may_spoil) fun _ _ _ _ _ _ us hl => match us, hl with | [_], _ => rfl
  have F39 := fun_mk (st := s_spoilt) l39 c39 k39
  have B39 := F39.binds (ps := P_spoilt) fun _ _ _ _ _ _ us hl => match us, hl with | [_, _], _ => rfl
  have F40 := fun_mk (st := s_law) l40 c40 k40
  have B40 := F40.binds (ps := P_law) fun _ _ _ _ _ _ us hl => match us, hl with | [_], _ => rfl
  let A : Nat → Addr := fun i => [f0, f1, f2, f3, f4, f5, f6, f7, f8, f9, f10, f11, f12, f13, f14, f15, f16, f17, f18, f19, f20, f21, f22, f23, f24, f25, f26, f27, f28, f29, f30, f31, f32, f33, f34, f35, f36, f37, f38, f39, fa].getD i 0
  let F : Nat → FuncData := fun i => [PySem.W.fnOf "is_number" "is_number" (defArgs s_is_number) (defBody s_is_number) (defScope s_is_number) .none kV0 dc0 pm0 an0 cd0 ct0,
    PySem.W.fnOf "is_whole" "is_whole" (defArgs s_is_whole) (defBody s_is_whole) (defScope s_is_whole) .none kV1 dc1 pm1 an1 cd1 ct1,
    PySem.W.fnOf "has_only" "has_only" (defArgs s_has_only) (defBody s_has_only) (defScope s_has_only) .none kV2 dc2 pm2 an2 cd2 ct2,
    PySem.W.fnOf "is_name" "is_name" (defArgs s_is_name) (defBody s_is_name) (defScope s_is_name) .none kV3 dc3 pm3 an3 cd3 ct3,
    PySem.W.fnOf "is_manner" "is_manner" (defArgs s_is_manner) (defBody s_is_manner) (defScope s_is_manner) .none kV4 dc4 pm4 an4 cd4 ct4,
    PySem.W.fnOf "is_short" "is_short" (defArgs s_is_short) (defBody s_is_short) (defScope s_is_short) .none kV5 dc5 pm5 an5 cd5 ct5,
    PySem.W.fnOf "is_most" "is_most" (defArgs s_is_most) (defBody s_is_most) (defScope s_is_most) .none kV6 dc6 pm6 an6 cd6 ct6,
    PySem.W.fnOf "are_so_many" "are_so_many" (defArgs s_are_so_many) (defBody s_are_so_many) (defScope s_are_so_many) .none kV7 dc7 pm7 an7 cd7 ct7,
    PySem.W.fnOf "are_terms" "are_terms" (defArgs s_are_terms) (defBody s_are_terms) (defScope s_are_terms) .none kV8 dc8 pm8 an8 cd8 ct8,
    PySem.W.fnOf "is_round" "is_round" (defArgs s_is_round) (defBody s_is_round) (defScope s_is_round) .none kV9 dc9 pm9 an9 cd9 ct9,
    PySem.W.fnOf "are_steps" "are_steps" (defArgs s_are_steps) (defBody s_are_steps) (defScope s_are_steps) .none kV10 dc10 pm10 an10 cd10 ct10,
    PySem.W.fnOf "are_two" "are_two" (defArgs s_are_two) (defBody s_are_two) (defScope s_are_two) .none kV11 dc11 pm11 an11 cd11 ct11,
    PySem.W.fnOf "are_four" "are_four" (defArgs s_are_four) (defBody s_are_four) (defScope s_are_four) .none kV12 dc12 pm12 an12 cd12 ct12,
    PySem.W.fnOf "are_eight" "are_eight" (defArgs s_are_eight) (defBody s_are_eight) (defScope s_are_eight) .none kV13 dc13 pm13 an13 cd13 ct13,
    PySem.W.fnOf "fits" "fits" (defArgs s_fits) (defBody s_fits) (defScope s_fits) .none kV14 dc14 pm14 an14 cd14 ct14,
    PySem.W.fnOf "is_plan_row" "is_plan_row" (defArgs s_is_plan_row) (defBody s_is_plan_row) (defScope s_is_plan_row) .none kV15 dc15 pm15 an15 cd15 ct15,
    PySem.W.fnOf "are_rows" "are_rows" (defArgs s_are_rows) (defBody s_are_rows) (defScope s_are_rows) .none kV16 dc16 pm16 an16 cd16 ct16,
    PySem.W.fnOf "is_plan" "is_plan" (defArgs s_is_plan) (defBody s_is_plan) (defScope s_is_plan) .none kV17 dc17 pm17 an17 cd17 ct17,
    PySem.W.fnOf "_law_cell" "_law_cell" (defArgs s_cell) (defBody s_cell) (defScope s_cell) .none kV18 dc18 pm18 an18 cd18 ct18,
    PySem.W.fnOf "_law_purse" "_law_purse" (defArgs s_purse) (defBody s_purse) (defScope s_purse) .none kV19 dc19 pm19 an19 cd19 ct19,
    PySem.W.fnOf "_law_take" "_law_take" (defArgs s_take) (defBody s_take) (defScope s_take) .none kV20 dc20 pm20 an20 cd20 ct20,
    PySem.W.fnOf "_law_names" "_law_names" (defArgs s_names) (defBody s_names) (defScope s_names) .none kV21 dc21 pm21 an21 cd21 ct21,
    PySem.W.fnOf "_law_legal" "_law_legal" (defArgs s_legal) (defBody s_legal) (defScope s_legal) .none kV22 dc22 pm22 an22 cd22 ct22,
    PySem.W.fnOf "_law_source" "_law_source" (defArgs s_source) (defBody s_source) (defScope s_source) .none kV23 dc23 pm23 an23 cd23 ct23,
    PySem.W.fnOf "_law_four" "_law_four" (defArgs s_four) (defBody s_four) (defScope s_four) .none kV24 dc24 pm24 an24 cd24 ct24,
    PySem.W.fnOf "_law_eight" "_law_eight" (defArgs s_eight) (defBody s_eight) (defScope s_eight) .none kV25 dc25 pm25 an25 cd25 ct25,
    PySem.W.fnOf "_law_machine" "_law_machine" (defArgs s_machine) (defBody s_machine) (defScope s_machine) .none kV26 dc26 pm26 an26 cd26 ct26,
    PySem.W.fnOf "_law_plan" "_law_plan" (defArgs s_plan) (defBody s_plan) (defScope s_plan) .none kV27 dc27 pm27 an27 cd27 ct27,
    PySem.W.fnOf "_law_size" "_law_size" (defArgs s_size) (defBody s_size) (defScope s_size) .none kV28 dc28 pm28 an28 cd28 ct28,
    PySem.W.fnOf "_law_short" "_law_short" (defArgs s_short) (defBody s_short) (defScope s_short) .none kV29 dc29 pm29 an29 cd29 ct29,
    PySem.W.fnOf "_law_called" "_law_called" (defArgs s_called) (defBody s_called) (defScope s_called) .none kV30 dc30 pm30 an30 cd30 ct30,
    PySem.W.fnOf "_law_numbers" "_law_numbers" (defArgs s_numbers) (defBody s_numbers) (defScope s_numbers) .none kV31 dc31 pm31 an31 cd31 ct31,
    PySem.W.fnOf "_law_word" "_law_word" (defArgs s_word) (defBody s_word) (defScope s_word) .none kV32 dc32 pm32 an32 cd32 ct32,
    PySem.W.fnOf "_law_most" "_law_most" (defArgs s_most) (defBody s_most) (defScope s_most) .none kV33 dc33 pm33 an33 cd33 ct33,
    PySem.W.fnOf "_law_two_rows" "_law_two_rows" (defArgs s_two_rows) (defBody s_two_rows) (defScope s_two_rows) .none kV34 dc34 pm34 an34 cd34 ct34,
    PySem.W.fnOf "_law_row_good" "_law_row_good" (defArgs s_row_good) (defBody s_row_good) (defScope s_row_good) .none kV35 dc35 pm35 an35 cd35 ct35,
    PySem.W.fnOf "_law_plan_good" "_law_plan_good" (defArgs s_plan_good) (defBody s_plan_good) (defScope s_plan_good) .none kV36 dc36 pm36 an36 cd36 ct36,
    PySem.W.fnOf "_law_spoilt_row" "_law_spoilt_row" (defArgs s_spoilt_row) (defBody s_spoilt_row) (defScope s_spoilt_row) .none kV37 dc37 pm37 an37 cd37 ct37,
    PySem.W.fnOf "_law_may_spoil" "_law_may_spoil" (defArgs s_may_spoil) (defBody s_may_spoil) (defScope s_may_spoil) .none kV38 dc38 pm38 an38 cd38 ct38,
    PySem.W.fnOf "_law_spoilt" "_law_spoilt" (defArgs s_spoilt) (defBody s_spoilt) (defScope s_spoilt) .none kV39 dc39 pm39 an39 cd39 ct39,
    PySem.W.fnOf "law" "law" (defArgs s_law) (defBody s_law) (defScope s_law) .none kV40 dc40 pm40 an40 cd40 ct40].getD i (PySem.W.fnOf "is_number" "is_number" (defArgs s_is_number) (defBody s_is_number) (defScope s_is_number) .none kV0 dc0 pm0 an0 cd0 ct0)
  have T : Tops K w mg A F :=
    { F_is_number := F0,
      b_is_number := B0,
      g_is_number := PySem.W.mg_of X G a0,
      F_is_whole := F1,
      b_is_whole := B1,
      g_is_whole := PySem.W.mg_of X G a1,
      F_has_only := F2,
      b_has_only := B2,
      g_has_only := PySem.W.mg_of X G a2,
      F_is_name := F3,
      b_is_name := B3,
      g_is_name := PySem.W.mg_of X G a3,
      F_is_manner := F4,
      b_is_manner := B4,
      g_is_manner := PySem.W.mg_of X G a4,
      F_is_short := F5,
      b_is_short := B5,
      g_is_short := PySem.W.mg_of X G a5,
      F_is_most := F6,
      b_is_most := B6,
      g_is_most := PySem.W.mg_of X G a6,
      F_are_so_many := F7,
      b_are_so_many := B7,
      g_are_so_many := PySem.W.mg_of X G a7,
      F_are_terms := F8,
      b_are_terms := B8,
      g_are_terms := PySem.W.mg_of X G a8,
      F_is_round := F9,
      b_is_round := B9,
      g_is_round := PySem.W.mg_of X G a9,
      F_are_steps := F10,
      b_are_steps := B10,
      g_are_steps := PySem.W.mg_of X G a10,
      F_are_two := F11,
      b_are_two := B11,
      g_are_two := PySem.W.mg_of X G a11,
      F_are_four := F12,
      b_are_four := B12,
      g_are_four := PySem.W.mg_of X G a12,
      F_are_eight := F13,
      b_are_eight := B13,
      g_are_eight := PySem.W.mg_of X G a13,
      F_fits := F14,
      b_fits := B14,
      g_fits := PySem.W.mg_of X G a14,
      F_is_plan_row := F15,
      b_is_plan_row := B15,
      g_is_plan_row := PySem.W.mg_of X G a15,
      F_are_rows := F16,
      b_are_rows := B16,
      g_are_rows := PySem.W.mg_of X G a16,
      F_is_plan := F17,
      b_is_plan := B17,
      g_is_plan := PySem.W.mg_of X G a17,
      F_cell := F18,
      b_cell := B18,
      g_cell := PySem.W.mg_of X G a18,
      F_purse := F19,
      b_purse := B19,
      g_purse := PySem.W.mg_of X G a19,
      F_take := F20,
      b_take := B20,
      g_take := PySem.W.mg_of X G a20,
      F_names := F21,
      b_names := B21,
      g_names := PySem.W.mg_of X G a21,
      F_legal := F22,
      b_legal := B22,
      g_legal := PySem.W.mg_of X G a22,
      F_source := F23,
      b_source := B23,
      g_source := PySem.W.mg_of X G a23,
      F_four := F24,
      b_four := B24,
      g_four := PySem.W.mg_of X G a24,
      F_eight := F25,
      b_eight := B25,
      g_eight := PySem.W.mg_of X G a25,
      F_machine := F26,
      b_machine := B26,
      g_machine := PySem.W.mg_of X G a26,
      F_plan := F27,
      b_plan := B27,
      g_plan := PySem.W.mg_of X G a27,
      F_size := F28,
      b_size := B28,
      g_size := PySem.W.mg_of X G a28,
      F_short := F29,
      b_short := B29,
      g_short := PySem.W.mg_of X G a29,
      F_called := F30,
      b_called := B30,
      g_called := PySem.W.mg_of X G a30,
      F_numbers := F31,
      b_numbers := B31,
      g_numbers := PySem.W.mg_of X G a31,
      F_word := F32,
      b_word := B32,
      g_word := PySem.W.mg_of X G a32,
      F_most := F33,
      b_most := B33,
      g_most := PySem.W.mg_of X G a33,
      F_two_rows := F34,
      b_two_rows := B34,
      g_two_rows := PySem.W.mg_of X G a34,
      F_row_good := F35,
      b_row_good := B35,
      g_row_good := PySem.W.mg_of X G a35,
      F_plan_good := F36,
      b_plan_good := B36,
      g_plan_good := PySem.W.mg_of X G a36,
      F_spoilt_row := F37,
      b_spoilt_row := B37,
      g_spoilt_row := PySem.W.mg_of X G a37,
      F_may_spoil := F38,
      b_may_spoil := B38,
      g_may_spoil := PySem.W.mg_of X G a38,
      F_spoilt := F39,
      b_spoilt := B39,
      g_spoilt := PySem.W.mg_of X G a39,
      F_law := F40,
      b_law := B40,
      g_law := PySem.W.mg_of X G a40,
      z_all := PySem.W.mg_none_of X G z_all,
      z_bool := PySem.W.mg_none_of X G z_bool,
      z_int := PySem.W.mg_none_of X G z_int,
      z_isinstance := PySem.W.mg_none_of X G z_isinstance,
      z_len := PySem.W.mg_none_of X G z_len,
      z_list := PySem.W.mg_none_of X G z_list,
      z_max := PySem.W.mg_none_of X G z_max,
      z_min := PySem.W.mg_none_of X G z_min,
      z_range := PySem.W.mg_none_of X G z_range,
      z_repr := PySem.W.mg_none_of X G z_repr,
      z_str := PySem.W.mg_none_of X G z_str,
      z_tuple := PySem.W.mg_none_of X G z_tuple,
      z_zip := PySem.W.mg_none_of X G z_zip,
      d_FITS := fun hg hm => ev_gl hg (by rw [hm]; exact PySem.W.mg_of X G x_FITS) (v := .ref d_FITS) rfl,
      tab_FITS := fun hm hK hw => ⟨⟨d_FITS, es_FITS, n_FITS, by rw [hm]; exact PySem.W.mg_of X G x_FITS, by rw [hK, hw]; exact ⟨ld_FITS, He.keysLit_of hd_FITS, nd_FITS⟩, fun z => by
      obtain ⟨r, h1, h2⟩ := ns_tab ld_FITS hd_FITS z
      exact ⟨r, by rw [hK]; exact h1, by rw [look_some, ← h2]; rfl⟩, fun z d h => by
      unfold tab_FITS at h
      by_cases h0 : z = "name"
      · subst h0
        cases h
        exact ⟨_, .ref f3, by rw [hK]; exact y_FITS_0, rfl, fun W i => by simp only [Rep]; exact ⟨_, by rw [i.mg, hm]; exact PySem.W.mg_of X G a3, rfl⟩⟩
      by_cases h1 : z = "manner"
      · subst h1
        cases h
        exact ⟨_, .ref f4, by rw [hK]; exact y_FITS_1, rfl, fun W i => by simp only [Rep]; exact ⟨_, by rw [i.mg, hm]; exact PySem.W.mg_of X G a4, rfl⟩⟩
      by_cases h2 : z = "number"
      · subst h2
        cases h
        exact ⟨_, .ref f5, by rw [hK]; exact y_FITS_2, rfl, fun W i => by simp only [Rep]; exact ⟨_, by rw [i.mg, hm]; exact PySem.W.mg_of X G a5, rfl⟩⟩
      by_cases h3 : z = "most"
      · subst h3
        cases h
        exact ⟨_, .ref f6, by rw [hK]; exact y_FITS_3, rfl, fun W i => by simp only [Rep]; exact ⟨_, by rw [i.mg, hm]; exact PySem.W.mg_of X G a6, rfl⟩⟩
      by_cases h4 : z = "terms"
      · subst h4
        cases h
        exact ⟨_, .ref f8, by rw [hK]; exact y_FITS_4, rfl, fun W i => by simp only [Rep]; exact ⟨_, by rw [i.mg, hm]; exact PySem.W.mg_of X G a8, rfl⟩⟩
      by_cases h5 : z = "round"
      · subst h5
        cases h
        exact ⟨_, .ref f9, by rw [hK]; exact y_FITS_5, rfl, fun W i => by simp only [Rep]; exact ⟨_, by rw [i.mg, hm]; exact PySem.W.mg_of X G a9, rfl⟩⟩
      by_cases h6 : z = "steps"
      · subst h6
        cases h
        exact ⟨_, .ref f10, by rw [hK]; exact y_FITS_6, rfl, fun W i => by simp only [Rep]; exact ⟨_, by rw [i.mg, hm]; exact PySem.W.mg_of X G a10, rfl⟩⟩
      by_cases h7 : z = "four"
      · subst h7
        cases h
        exact ⟨_, .ref f12, by rw [hK]; exact y_FITS_7, rfl, fun W i => by simp only [Rep]; exact ⟨_, by rw [i.mg, hm]; exact PySem.W.mg_of X G a12, rfl⟩⟩
      by_cases h8 : z = "eight"
      · subst h8
        cases h
        exact ⟨_, .ref f13, by rw [hK]; exact y_FITS_8, rfl, fun W i => by simp only [Rep]; exact ⟨_, by rw [i.mg, hm]; exact PySem.W.mg_of X G a13, rfl⟩⟩
      simp [List.lookup_cons, beq_eq_false_iff_ne.mpr h0, beq_eq_false_iff_ne.mpr h1, beq_eq_false_iff_ne.mpr h2, beq_eq_false_iff_ne.mpr h3, beq_eq_false_iff_ne.mpr h4, beq_eq_false_iff_ne.mpr h5, beq_eq_false_iff_ne.mpr h6, beq_eq_false_iff_ne.mpr h7, beq_eq_false_iff_ne.mpr h8] at h⟩⟩,
      c_GREATEST := ⟨_, PySem.W.mg_of X G x_GREATEST⟩,
      c_LETTERS := ⟨_, PySem.W.mg_of X G x_LETTERS⟩,
      c_LONGEST := ⟨_, PySem.W.mg_of X G x_LONGEST⟩,
      e_MANNERS := fun hg hm hK => ev_gtup hg (by rw [hm]; exact PySem.W.mg_of X G x_MANNERS) (fun H => by rw [hK]; exact tup_mk lt_MANNERS vt_MANNERS (by decide) H) (fun W _ => by simp [Reps, Rep]),
      c_MOST_MOST := ⟨_, PySem.W.mg_of X G x_MOST_MOST⟩,
      c_MOST_ROUND := ⟨_, PySem.W.mg_of X G x_MOST_ROUND⟩,
      c_MOST_ROWS := ⟨_, PySem.W.mg_of X G x_MOST_ROWS⟩,
      c_MOST_TERMS := ⟨_, PySem.W.mg_of X G x_MOST_TERMS⟩,
      d_SHAPES := fun hg hm => ev_gl hg (by rw [hm]; exact PySem.W.mg_of X G x_SHAPES) (v := .ref d_SHAPES) rfl,
      tab_SHAPES := fun hm hK hw => ⟨⟨d_SHAPES, es_SHAPES, n_SHAPES, by rw [hm]; exact PySem.W.mg_of X G x_SHAPES, by rw [hK, hw]; exact ⟨ld_SHAPES, He.keysLit_of hd_SHAPES, nd_SHAPES⟩, fun z => by
      obtain ⟨r, h1, h2⟩ := ns_tab ld_SHAPES hd_SHAPES z
      exact ⟨r, by rw [hK]; exact h1, by rw [look_some, ← h2]; rfl⟩, fun z d h => by
      unfold tab_SHAPES at h
      by_cases h0 : z = "row"
      · subst h0
        cases h
        exact ⟨_, .ref t_SHAPES0, by rw [hK]; exact y_SHAPES_0, rfl, fun W i => by simp only [Rep]; exact ⟨t_SHAPES0, [.str "name", .str "manner", .str "terms"], rfl, by rw [i.K, hK]; exact tup_mk lt_SHAPES0 vt_SHAPES0 (by decide) _, by simp [Reps, Rep]⟩⟩
      by_cases h1 : z = "ruled"
      · subst h1
        cases h
        exact ⟨_, .ref t_SHAPES1, by rw [hK]; exact y_SHAPES_1, rfl, fun W i => by simp only [Rep]; exact ⟨t_SHAPES1, [.str "name", .str "manner", .str "terms", .str "round", .str "steps"], rfl, by rw [i.K, hK]; exact tup_mk lt_SHAPES1 vt_SHAPES1 (by decide) _, by simp [Reps, Rep]⟩⟩
      by_cases h2 : z = "fed"
      · subst h2
        cases h
        exact ⟨_, .ref t_SHAPES2, by rw [hK]; exact y_SHAPES_2, rfl, fun W i => by simp only [Rep]; exact ⟨t_SHAPES2, [.str "name", .str "manner"], rfl, by rw [i.K, hK]; exact tup_mk lt_SHAPES2 vt_SHAPES2 (by decide) _, by simp [Reps, Rep]⟩⟩
      by_cases h3 : z = "surd"
      · subst h3
        cases h
        exact ⟨_, .ref t_SHAPES3, by rw [hK]; exact y_SHAPES_3, rfl, fun W i => by simp only [Rep]; exact ⟨t_SHAPES3, [.str "name", .str "number", .str "number", .str "number"], rfl, by rw [i.K, hK]; exact tup_mk lt_SHAPES3 vt_SHAPES3 (by decide) _, by simp [Reps, Rep]⟩⟩
      by_cases h4 : z = "one"
      · subst h4
        cases h
        exact ⟨_, .ref t_SHAPES4, by rw [hK]; exact y_SHAPES_4, rfl, fun W i => by simp only [Rep]; exact ⟨t_SHAPES4, [.str "name", .str "name", .str "manner", .str "most", .str "four"], rfl, by rw [i.K, hK]; exact tup_mk lt_SHAPES4 vt_SHAPES4 (by decide) _, by simp [Reps, Rep]⟩⟩
      by_cases h5 : z = "two"
      · subst h5
        cases h
        exact ⟨_, .ref t_SHAPES5, by rw [hK]; exact y_SHAPES_5, rfl, fun W i => by simp only [Rep]; exact ⟨t_SHAPES5, [.str "name", .str "name", .str "name", .str "manner", .str "most", .str "eight"], rfl, by rw [i.K, hK]; exact tup_mk lt_SHAPES5 vt_SHAPES5 (by decide) _, by simp [Reps, Rep]⟩⟩
      by_cases h6 : z = "root"
      · subst h6
        cases h
        exact ⟨_, .ref t_SHAPES6, by rw [hK]; exact y_SHAPES_6, rfl, fun W i => by simp only [Rep]; exact ⟨t_SHAPES6, [.str "name", .str "name", .str "most"], rfl, by rw [i.K, hK]; exact tup_mk lt_SHAPES6 vt_SHAPES6 (by decide) _, by simp [Reps, Rep]⟩⟩
      simp [List.lookup_cons, beq_eq_false_iff_ne.mpr h0, beq_eq_false_iff_ne.mpr h1, beq_eq_false_iff_ne.mpr h2, beq_eq_false_iff_ne.mpr h3, beq_eq_false_iff_ne.mpr h4, beq_eq_false_iff_ne.mpr h5, beq_eq_false_iff_ne.mpr h6] at h⟩⟩ }
  exact ⟨F 40, fun s v => .of_eq rfl, fun base _ _ hS => ok_law T hS⟩
end G_k74

set_option Elab.async false
set_option linter.all false
set_option maxRecDepth 100000
set_option maxHeartbeats 1000000
set_option exponentiation.threshold 20000
/-! FM: what the mirrors do, read as promises. -/
namespace FL
open PySem L2
def okO {α : Type} (o : Option α) (Q : α → Prop) : Prop := match o with
  | some a => Q a
  | none => False
def okM {α : Type} (o : Out α) (Q : α → MT → Prop) : Prop := match o with
  | .ok a T => Q a T
  | _ => False
def okS (o : SO) (Qn : MT → Prop) (Qr : D → MT → Prop) : Prop := match o with
  | .nx T => Qn T
  | .rt d T => Qr d T
  | _ => False
def okF (o : FO) (Q : D → List MO → Prop) : Prop := match o with
  | .ok d st => Q d st
  | _ => False
section
variable {α β : Type} {T : MT} {a : α} {Q : α → MT → Prop} {R : D → MT → Prop} {Qn : MT → Prop} {m : M α} {ma mb mc : M D} {mt : M Bool} {s1 s2 : MS}
@[simp] theorem okO_some {P : α → Prop} : okO (some a) P ↔ P a := Iff.rfl
@[simp] theorem okO_none {P : α → Prop} : okO (none : Option α) P ↔ False := Iff.rfl
theorem okO_imp {o : Option α} {P P' : α → Prop} (h : okO o P) (k : ∀ a, P a → P' a) : okO o P' := by
  cases o with
  | none => exact h
  | some a => exact k a h
theorem okM_imp {o : Out α} {P P' : α → MT → Prop} (h : okM o P) (k : ∀ a T, P a T → P' a T) : okM o P' := by
  cases o with
  | ok a T => exact k a T h
  | _ => exact h
theorem okF_imp {o : FO} {P P' : D → List MO → Prop} (h : okF o P) (k : ∀ a T, P a T → P' a T) : okF o P' := by
  cases o with
  | ok a T => exact k a T h
  | _ => exact h
theorem okS_imp {o : SO} {Qn' : MT → Prop} {R' : D → MT → Prop} (h : okS o Qn R) (k : ∀ T, Qn T → Qn' T) (k' : ∀ a T, R a T → R' a T) : okS o Qn' R' := by
  cases o with
  | nx T => exact k T h
  | rt a T => exact k' a T h
  | _ => exact h
@[simp] theorem okM_ok : okM (.ok a T) Q ↔ Q a T := Iff.rfl
@[simp] theorem okM_stuck : okM (.stuck : Out α) Q ↔ False := Iff.rfl
@[simp] theorem okS_nx : okS (.nx T) Qn R ↔ Qn T := Iff.rfl
@[simp] theorem okS_rt {d : D} : okS (.rt d T) Qn R ↔ R d T := Iff.rfl
@[simp] theorem okS_stuck : okS .stuck Qn R ↔ False := Iff.rfl
@[simp] theorem okM_bnd {k : α → M β} {Q : β → MT → Prop} : okM (bnd m k T) Q ↔ okM (m T) fun a T' => okM (k a T') Q := by
  unfold bnd
  cases m T <;> rfl
@[simp] theorem okM_ret : okM ((ret a : M α) T) Q ↔ Q a T := Iff.rfl
@[simp] theorem okM_lift {f : MT → Option α} : okM (lift f T) Q ↔ okO (f T) fun a => Q a T := by
  unfold lift
  cases f T <;> rfl
@[simp] theorem okM_mC {d : D} : okM (mC d T) R ↔ R d T := Iff.rfl
@[simp] theorem okM_op1 {f : MT → D → Option D} : okM (op1 f ma T) R ↔ okM (ma T) fun x T1 => okO (f T1 x) fun z => R z T1 := by simp [op1]
@[simp] theorem okM_op2 {f : MT → D → D → Option D} : okM (op2 f ma mb T) R ↔ okM (ma T) fun x T1 => okM (mb T1) fun y T2 => okO (f T2 x y) fun z => R z T2 := by simp [op2]
@[simp] theorem okM_cmpB {f : Cmp} {Q : Bool → MT → Prop} : okM (cmpB f ma mb T) Q ↔ okM (ma T) fun x T1 => okM (mb T1) fun y T2 => okO (f T2 x y) fun z => Q z T2 := by simp [cmpB]
@[simp] theorem okM_cmpV {f : Cmp} : okM (cmpV f ma mb T) R ↔ okM (ma T) fun x T1 => okM (mb T1) fun y T2 => okO (f T2 x y) fun z => R (.bl z) T2 := by
  have : ∀ {o : Option Bool} {P : D → Prop}, okO (o.map D.bl) P ↔ okO o fun z => P (.bl z) := fun {o P} => by cases o <;> rfl
  simp [cmpV, this]
@[simp] theorem okM_bTru {Q : Bool → MT → Prop} : okM (bTru ma T) Q ↔ okM (ma T) fun x T1 => okO (truth T1 x) fun z => Q z T1 := by simp [bTru]
@[simp] theorem okM_mIf {c : M Bool} {a b : M α} : okM (mIf c a b T) Q ↔ okM (c T) fun k T1 => (if k then okM (a T1) Q else okM (b T1) Q) := by
  unfold mIf
  simp only [okM_bnd]
  have : ∀ (k : Bool) (T1 : MT), okM ((if k then a else b) T1) Q ↔ (if k then okM (a T1) Q else okM (b T1) Q) := fun k T1 => by cases k <;> exact Iff.rfl
  simp only [this]
@[simp] theorem okM_bNot {c : M Bool} {Q : Bool → MT → Prop} : okM (bNot c T) Q ↔ okM (c T) fun k T1 => Q (!k) T1 := by simp [bNot]
@[simp] theorem okM_bAnd {c d : M Bool} {Q : Bool → MT → Prop} : okM (bAnd c d T) Q ↔ okM (c T) fun k T1 => (if k then okM (d T1) Q else Q false T1) := by
  unfold bAnd
  simp only [okM_bnd]
  have : ∀ (k : Bool) (T1 : MT), okM ((if k then d else ret false) T1) Q ↔ (if k then okM (d T1) Q else Q false T1) := fun k T1 => by cases k <;> exact Iff.rfl
  simp only [this]
@[simp] theorem okM_bOr {c d : M Bool} {Q : Bool → MT → Prop} : okM (bOr c d T) Q ↔ okM (c T) fun k T1 => (if k then Q true T1 else okM (d T1) Q) := by
  unfold bOr
  simp only [okM_bnd]
  have : ∀ (k : Bool) (T1 : MT), okM ((if k then ret true else d) T1) Q ↔ (if k then Q true T1 else okM (d T1) Q) := fun k T1 => by cases k <;> exact Iff.rfl
  simp only [this]
@[simp] theorem okM_vAnd : okM (vAnd ma mb T) R ↔ okM (ma T) fun x T1 => okO (toB x) fun k => (if k then okM (mb T1) R else R (.bl false) T1) := by
  unfold vAnd
  simp only [okM_bnd, okM_lift]
  have : ∀ (k : Bool) (T1 : MT), okM ((if k then mb else ret (.bl false)) T1) R ↔ (if k then okM (mb T1) R else R (.bl false) T1) := fun k T1 => by cases k <;> exact Iff.rfl
  simp only [this]
@[simp] theorem okM_vOr : okM (vOr ma mb T) R ↔ okM (ma T) fun x T1 => okO (toB x) fun k => (if k then R (.bl true) T1 else okM (mb T1) R) := by
  unfold vOr
  simp only [okM_bnd, okM_lift]
  have : ∀ (k : Bool) (T1 : MT), okM ((if k then ret (.bl true) else mb) T1) R ↔ (if k then R (.bl true) T1 else okM (mb T1) R) := fun k T1 => by cases k <;> exact Iff.rfl
  simp only [this]
@[simp] theorem okM_vNot : okM (vNot ma T) R ↔ okM (ma T) fun x T1 => okO (toB x) fun k => R (.bl (!k)) T1 := by simp [vNot]
@[simp] theorem okM_chainB {f g : Cmp} {Q : Bool → MT → Prop} : okM (chainB f g ma mb mc T) Q ↔ okM (ma T) fun x T1 => okM (mb T1) fun y T2 => okO (f T2 x y) fun k => (if k then okM (mc T2) fun z T3 => okO (g T3 y z) fun r => Q r T3 else Q false T2) := by
  unfold chainB
  simp only [okM_bnd, okM_lift]
  have : ∀ (k : Bool) (y : D) (T1 : MT), okM ((if k then bnd mc fun z => lift fun T => g T y z else ret false) T1) Q ↔ (if k then okM (mc T1) fun z T3 => okO (g T3 y z) fun r => Q r T3 else Q false T1) := fun k y T1 => by cases k <;> simp
  simp only [this]
@[simp] theorem okM_chainV {f g : Cmp} : okM (chainV f g ma mb mc T) R ↔ okM (ma T) fun x T1 => okM (mb T1) fun y T2 => okO (f T2 x y) fun k => (if k then okM (mc T2) fun z T3 => okO (g T3 y z) fun r => R (.bl r) T3 else R (.bl false) T2) := by
  unfold chainV
  simp only [okM_bnd, okM_lift]
  have h2 : ∀ {o : Option Bool} {P : D → Prop}, okO (o.map D.bl) P ↔ okO o fun z => P (.bl z) := fun {o P} => by cases o <;> rfl
  have : ∀ (k : Bool) (y : D) (T1 : MT), okM ((if k then bnd mc fun z => lift fun T => (g T y z).map D.bl else ret (.bl false)) T1) R ↔ (if k then okM (mc T1) fun z T3 => okO (g T3 y z) fun r => R (.bl r) T3 else R (.bl false) T1) := fun k y T1 => by cases k <;> simp [h2]
  simp only [this]
variable {Qa : List D → MT → Prop} {mr : M (List D)}
@[simp] theorem okM_aNil : okM (aNil T) Qa ↔ Qa [] T := Iff.rfl
@[simp] theorem okM_aCons : okM (aCons ma mr T) Qa ↔ okM (ma T) fun x T1 => okM (mr T1) fun xs T2 => Qa (x :: xs) T2 := by simp [aCons]
@[simp] theorem okM_callB {f : Bi} : okM (callB f mr T) R ↔ okM (mr T) fun ds T1 => okO (f T1 ds) fun z => R z T1 := by simp [callB]
@[simp] theorem okM_mTup : okM (mTup mr T) R ↔ okM (mr T) fun ds T1 => (noTmp ds = true ∧ ds.length ≤ sz) ∧ R (.tup ds) T1 := by
  unfold mTup
  simp only [okM_bnd, okM_lift]
  have : ∀ (ds : List D) (T1 : MT), okO (if (noTmp ds && decide (ds.length ≤ sz)) = true then some (D.tup ds) else none) (fun a => R a T1) ↔ ((noTmp ds = true ∧ ds.length ≤ sz) ∧ R (.tup ds) T1) := fun ds T1 => by
    by_cases h : noTmp ds = true ∧ ds.length ≤ sz <;> simp [h]
  simp only [this]
@[simp] theorem okM_fLst : okM (fLst mr T) Qa ↔ okM (mr T) fun ds T1 => (noTmp ds = true ∧ ds.length ≤ sz) ∧ Qa ds T1 := by
  unfold fLst
  simp only [okM_bnd, okM_lift]
  have : ∀ (ds : List D) (T1 : MT), okO (if (noTmp ds && decide (ds.length ≤ sz)) = true then some ds else none) (fun a => Qa a T1) ↔ ((noTmp ds = true ∧ ds.length ≤ sz) ∧ Qa ds T1) := fun ds T1 => by
    by_cases h : noTmp ds = true ∧ ds.length ≤ sz <;> simp [h]
  simp only [this]
@[simp] theorem okM_vL : okM (vL mr T) R ↔ okM (mr T) fun ds T1 => R (.lst ds) T1 := by simp [vL]
@[simp] theorem okM_aL : okM (aL mr T) R ↔ okM (mr T) fun ds T1 => R (.obj T1.st.length) { T1 with st := T1.st ++ [.lst ds] } := by simp [aL]
@[simp] theorem okM_callF {n : Nat} {mf : MF} {dfl ds : List D} : okM (callF n mf dfl ds T) R ↔ (noTmp ds = true ∧ (ds ++ dfl).length = n) ∧ okF (mf (ds ++ dfl) T.st) fun d st => R d { T with st := st } := by
  unfold callF
  by_cases h : noTmp ds = true ∧ (ds ++ dfl).length = n
  · rw [if_pos (by simpa using h)]
    cases mf (ds ++ dfl) T.st <;> simp [FO.out, okF, okM, h]
  · rw [if_neg (by simpa using h)]
    simp only [okM_stuck, false_iff]
    exact fun q => h q.1
@[simp] theorem okM_mCall {n : Nat} {mf : MF} {dfl : List D} : okM (mCall n mf dfl mr T) R ↔ okM (mr T) fun ds T1 => (noTmp ds = true ∧ (ds ++ dfl).length = n) ∧ okF (mf (ds ++ dfl) T1.st) fun d st => R d { T1 with st := st } := by simp [mCall]
@[simp] theorem okM_mJoin : okM (mJoin ma mb T) R ↔ okM (ma T) fun x T1 => ∃ z, x = .str z ∧ okM (mb T1) fun y T2 => okO (opJoin T2 x y) fun w => R w T2 := by
  have this : ∀ (x : D) (T1 : MT), okM ((match x with | .str _ => bnd mb (fun y => lift fun T => opJoin T x y) T1 | _ => .stuck) : Out D) R ↔ ∃ z, x = .str z ∧ okM (mb T1) fun y T2 => okO (opJoin T2 x y) fun w => R w T2 := fun x T1 => by cases x <;> simp
  unfold mJoin
  rw [okM_bnd]
  exact ⟨fun h => okM_imp h fun x T1 q => (this x T1).mp q, fun h => okM_imp h fun x T1 q => (this x T1).mpr q⟩
@[simp] theorem okM_oNone {Q : Option Int → MT → Prop} : okM (oNone T) Q ↔ Q none T := Iff.rfl
@[simp] theorem okM_oSome {Q : Option Int → MT → Prop} : okM (oSome ma T) Q ↔ okM (ma T) fun x T1 => okO (toI x) fun i => Q (some i) T1 := by
  have : ∀ {o : Option Int} {P : Option Int → Prop}, okO (o.map some) P ↔ okO o fun z => P (some z) := fun {o P} => by cases o <;> rfl
  simp [oSome, this]
@[simp] theorem okM_mSlice {ml mh : M (Option Int)} : okM (mSlice ma ml mh T) R ↔ okM (ma T) fun x T1 => okM (ml T1) fun l T2 => okM (mh T2) fun h T3 => okO (slice T3 x l h) fun z => R z T3 := by simp [mSlice]
/-! ### statements -/
@[simp] theorem okS_sOf {o : Out α} {k : α → MS} : okS (sOf o k) Qn R ↔ okM o fun a T1 => okS (k a T1) Qn R := by cases o <;> rfl
@[simp] theorem okS_skip : okS (sSkip T) Qn R ↔ Qn T := Iff.rfl
@[simp] theorem okS_seq : okS (sSeq s1 s2 T) Qn R ↔ okS (s1 T) (fun T1 => okS (s2 T1) Qn R) R := by
  unfold sSeq
  cases s1 T <;> rfl
theorem okS_if {c : Prop} [Decidable c] {a b : SO} : okS (if c then a else b) Qn R ↔ (if c then okS a Qn R else okS b Qn R) := by split <;> rfl
@[simp] theorem okS_ret : okS (sRet ma T) Qn R ↔ okM (ma T) fun d T1 => isTmp d = false ∧ R d T1 := by
  unfold sRet
  simp only [okS_sOf]
  have : ∀ (d : D) (T1 : MT), okS (if isTmp d = true then .stuck else .rt d T1) Qn R ↔ (isTmp d = false ∧ R d T1) := fun d T1 => by cases isTmp d <;> simp
  simp only [this]
@[simp] theorem okS_sIf : okS (sIf mt s1 s2 T) Qn R ↔ okM (mt T) fun k T1 => (if k then okS (s1 T1) Qn R else okS (s2 T1) Qn R) := by
  unfold sIf
  simp only [okS_sOf]
  have : ∀ (k : Bool) (T1 : MT), okS ((if k then s1 else s2) T1) Qn R ↔ (if k then okS (s1 T1) Qn R else okS (s2 T1) Qn R) := fun k T1 => by cases k <;> exact Iff.rfl
  simp only [this]
@[simp] theorem okS_set {i : Nat} : okS (sSet i ma T) Qn R ↔ okM (ma T) fun d T1 => isTmp d = false ∧ Qn (setV T1 i d) := by
  unfold sSet
  simp only [okS_sOf]
  have : ∀ (d : D) (T1 : MT), okS (if isTmp d = true then .stuck else .nx (setV T1 i d)) Qn R ↔ (isTmp d = false ∧ Qn (setV T1 i d)) := fun d T1 => by cases isTmp d <;> simp
  simp only [this]
@[simp] theorem okS_own {i : Nat} : okS (sOwn i mr T) Qn R ↔ okM (mr T) fun ds T1 => Qn (setO T1 i (.lst ds)) := by
  unfold sOwn
  simp only [okS_sOf, okS_nx]
@[simp] theorem okF_runB {b : MS} {N : Nat} {ds : List D} {st : List MO} {Q : D → List MO → Prop} : okF (runB b N ds st) Q ↔ okS (b ⟨ds.map Sl.val ++ List.replicate (N - ds.length) Sl.emp, st⟩) (fun T => Q .non T.st) (fun d T => Q d T.st) := by
  unfold runB
  cases b ⟨ds.map Sl.val ++ List.replicate (N - ds.length) Sl.emp, st⟩ <;> rfl
end
end FL

set_option Elab.async false
set_option linter.all false
set_option maxRecDepth 100000
set_option maxHeartbeats 1000000
set_option exponentiation.threshold 20000
/-! FM2: the operators, read as promises. -/
namespace FL
open PySem L2
/-- a slot's content -/
def okSl (o : Option Sl) (i : Nat) (R : D → Prop) : Prop := match o with
  | some (.val d) => R d
  | some (.own _) => R (.own i)
  | _ => False
section
variable {env : List Sl} {st : List MO} {T : MT} {i j : Int} {n k : Nat} {P : D → Prop} {B : Bool → Prop} {R : D → MT → Prop} {Qn : MT → Prop} {x y : Str} {xs ys : List D} {d : D} {ma mb mc : M D}
@[simp] theorem okSl_val {R : D → Prop} : okSl (some (.val d)) n R ↔ R d := Iff.rfl
@[simp] theorem okSl_own {R : D → Prop} {o : MO} : okSl (some (.own o)) n R ↔ R (.own n) := Iff.rfl
@[simp] theorem okSl_emp {R : D → Prop} : okSl (some .emp) n R ↔ False := Iff.rfl
@[simp] theorem okM_mVar : okM (mVar n ⟨env, st⟩) R ↔ okSl env[n]? n fun d => R d ⟨env, st⟩ := by
  unfold mVar okSl
  cases h : env[n]? with
  | none => simp [h]
  | some s => cases s <;> simp [h]
/-- a frozen slot -/
def okFz (o : Option Sl) (R : D → Prop) : Prop := match o with
  | some (.val d) => R d
  | some (.own (.lst xs)) => R (.lst xs)
  | some (.own (.dic ks vs)) => R (.dic ks vs)
  | _ => False
@[simp] theorem okFz_val {R : D → Prop} : okFz (some (.val d)) R ↔ R d := Iff.rfl
@[simp] theorem okFz_own {R : D → Prop} : okFz (some (.own (.lst xs))) R ↔ R (.lst xs) := Iff.rfl
@[simp] theorem setV_mk : setV ⟨env, st⟩ n d = ⟨env.set n (.val d), st⟩ := rfl
@[simp] theorem setO_mk {o : MO} : setO ⟨env, st⟩ n o = ⟨env.set n (.own o), st⟩ := rfl
@[simp] theorem setS_mk {o : MO} : setS ⟨env, st⟩ n o = ⟨env, st.set n o⟩ := rfl
@[simp] theorem isTmp_int : isTmp (.int i) = false := id rfl
@[simp] theorem isTmp_str : isTmp (.str x) = false := id rfl
@[simp] theorem isTmp_bl {b : Bool} : isTmp (.bl b) = false := id rfl
@[simp] theorem isTmp_non : isTmp .non = false := id rfl
@[simp] theorem isTmp_tup : isTmp (.tup xs) = false := id rfl
@[simp] theorem isTmp_lst : isTmp (.lst xs) = false := id rfl
@[simp] theorem isTmp_dic {ks : List Ky} : isTmp (.dic ks xs) = false := id rfl
@[simp] theorem isTmp_obj : isTmp (.obj n) = false := id rfl
@[simp] theorem isTmp_gl : isTmp (.gl x) = false := id rfl
@[simp] theorem isTmp_scr {ns : List Int} : isTmp (.scr ns) = false := id rfl
@[simp] theorem noTmp_nil : noTmp [] = true := rfl
@[simp] theorem noTmp_cons : noTmp (d :: xs) = true ↔ isTmp d = false ∧ noTmp xs = true := by simp [noTmp]
/-! ints -/
@[simp] theorem okO_add : okO (opAdd T (.int i) (.int j)) P ↔ P (.int (i + j)) := Iff.rfl
@[simp] theorem okO_addS : okO (opAdd T (.str x) (.str y)) P ↔ x.length + y.length ≤ sz ∧ P (.str (x ++ y)) := by
  unfold opAdd
  by_cases h : x.length + y.length ≤ sz <;> simp [h]
@[simp] theorem okO_addL : okO (opAdd T (.lst xs) (.lst ys)) P ↔ xs.length + ys.length ≤ sz ∧ P (.lst (xs ++ ys)) := by
  unfold opAdd
  simp only [vw]
  by_cases h : xs.length + ys.length ≤ sz <;> simp [h]
@[simp] theorem okO_addT : okO (opAdd T (.tup xs) (.tup ys)) P ↔ xs.length + ys.length ≤ sz ∧ P (.tup (xs ++ ys)) := by
  unfold opAdd
  simp only [vw]
  by_cases h : xs.length + ys.length ≤ sz <;> simp [h]
@[simp] theorem okO_sub : okO (opSub T (.int i) (.int j)) P ↔ P (.int (i - j)) := Iff.rfl
@[simp] theorem okO_mul : okO (opMul T (.int i) (.int j)) P ↔ (small i = true ∧ small j = true) ∧ P (.int (i * j)) := by
  unfold opMul
  by_cases h : small i = true ∧ small j = true <;> simp [h]
theorem okO_mulS : okO (opMul T (.str x) (.int j)) P ↔ (0 ≤ j ∧ j ≤ 1000 ∧ x.length ≤ 1000) ∧ P (.str ⟨(List.replicate j.toNat x.cps.toList).flatten.toArray⟩) := by
  unfold opMul
  by_cases h : 0 ≤ j ∧ j ≤ 1000 ∧ x.length ≤ 1000 <;> simp [h]
@[simp] theorem okO_mod : okO (opMod T (.int i) (.int j)) P ↔ j ≠ 0 ∧ P (.int (i.fmod j)) := by
  unfold opMod
  by_cases h : j = 0 <;> simp [h]
@[simp] theorem okO_fdiv : okO (opFdiv T (.int i) (.int j)) P ↔ (small j = true ∧ j ≠ 0) ∧ P (.int (i.fdiv j)) := by
  unfold opFdiv
  by_cases h : small j = true ∧ j ≠ 0 <;> simp [h]
@[simp] theorem okO_pow : okO (opPow T (.int i) (.int j)) P ↔ (0 ≤ j ∧ j ≤ 100 ∧ i.natAbs < 2 ^ 64) ∧ P (.int (i ^ j.toNat)) := by
  unfold opPow
  by_cases h : 0 ≤ j ∧ j ≤ 100 ∧ i.natAbs < 2 ^ 64 <;> simp [h]
@[simp] theorem okO_neg : okO (opNeg T (.int i)) P ↔ P (.int (-i)) := Iff.rfl
@[simp] theorem okO_eqI : okO (opEq T (.int i) (.int j)) B ↔ B (i == j) := Iff.rfl
@[simp] theorem okO_eqS : okO (opEq T (.str x) (.str y)) B ↔ B (x == y) := Iff.rfl
@[simp] theorem okO_eqL : okO (opEq T (.lst xs) (.lst [])) B ↔ B xs.isEmpty := Iff.rfl
@[simp] theorem okO_eqT : okO (opEq T (.tup xs) (.tup [])) B ↔ B xs.isEmpty := Iff.rfl
theorem okO_mapB {o : Option Bool} {f : Bool → Bool} : okO (o.map f) B ↔ okO o fun b => B (f b) := by cases o <;> rfl
@[simp] theorem okO_ne {d e : D} : okO (opNe T d e) B ↔ okO (opEq T d e) fun b => B (!b) := okO_mapB
@[simp] theorem okO_lt : okO (opLt T (.int i) (.int j)) B ↔ B (decide (i < j)) := Iff.rfl
@[simp] theorem okO_le : okO (opLe T (.int i) (.int j)) B ↔ B (decide (i ≤ j)) := Iff.rfl
@[simp] theorem okO_gt : okO (opGt T (.int i) (.int j)) B ↔ B (decide (j < i)) := Iff.rfl
@[simp] theorem okO_ge : okO (opGe T (.int i) (.int j)) B ↔ B (decide (j ≤ i)) := Iff.rfl
@[simp] theorem okO_toI : okO (toI (.int i)) (fun a => P (.int a)) ↔ P (.int i) := Iff.rfl
@[simp] theorem toI_int : toI (.int i) = some i := rfl
@[simp] theorem toB_bl {b : Bool} : toB (.bl b) = some b := rfl
@[simp] theorem truth_bl {b : Bool} : truth T (.bl b) = some b := rfl
/-! places -/
@[simp] theorem okO_ixL : okO (opIx T (.lst xs) (.int i)) P ↔ okO ((ixD xs.length i).bind fun j => xs[j]?) P := Iff.rfl
@[simp] theorem okO_ixT : okO (opIx T (.tup xs) (.int i)) P ↔ okO ((ixD xs.length i).bind fun j => xs[j]?) P := Iff.rfl
theorem okO_ixS : okO (opIx T (.str x) (.int i)) P ↔ x.length ≤ sz ∧ okO (ixD x.length i) fun j => okO (x.cps.toList[j]?) fun c => P (.str ⟨#[c]⟩) := by
  unfold opIx
  by_cases h : x.length ≤ sz
  · simp only [h, if_true, true_and]
    cases ixD x.length i with
    | none => rfl
    | some j =>
      show okO (x.cps.toList[j]?.map fun c => D.str ⟨#[c]⟩) P ↔ okO (x.cps.toList[j]?) fun c => P (.str ⟨#[c]⟩)
      cases x.cps.toList[j]? <;> rfl
  · simp [h]
def ixO (o : Option MO) (i : Int) : Option D := match o with
  | some (.lst xs) => (ixD xs.length i).bind fun j => xs[j]?
  | _ => none
@[simp] theorem ixO_lst : ixO (some (.lst xs)) i = (ixD xs.length i).bind fun j => xs[j]? := rfl
@[simp] theorem okO_ixO : okO (opIx ⟨env, st⟩ (.obj n) (.int i)) P ↔ okO (ixO st[n]? i) P := by
  unfold opIx ixO
  simp only [vw]
  cases h : st[n]? with
  | none => rfl
  | some o => cases o <;> rfl
def ixW (o : Option Sl) (i : Int) : Option D := match o with
  | some (.own (.lst xs)) => (ixD xs.length i).bind fun j => xs[j]?
  | _ => none
@[simp] theorem ixW_lst : ixW (some (.own (.lst xs))) i = (ixD xs.length i).bind fun j => xs[j]? := rfl
@[simp] theorem okO_ixW : okO (opIx ⟨env, st⟩ (.own n) (.int i)) P ↔ okO (ixW env[n]? i) P := by
  unfold opIx ixW
  simp only [vw]
  cases h : env[n]? with
  | none => rfl
  | some o =>
    cases o with
    | own o => cases o <;> rfl
    | _ => rfl
theorem okO_bind {α β : Type} {o : Option α} {f : α → Option β} {P : β → Prop} : okO (o.bind f) P ↔ okO o fun a => okO (f a) P := by cases o <;> rfl
/-- an index that is within -/
theorem ix_in {i : Int} {n : Nat} (h0 : 0 ≤ i) (h : i < n) (q : ∀ d ∈ xs, P d) (hn : xs.length = n := by rfl) : okO ((ixD n i).bind fun j => xs[j]?) P := by
  subst hn
  unfold ixD
  rw [if_pos h0, if_pos h]
  have : i.toNat < xs.length := by omega
  show okO (xs[i.toNat]?) P
  rw [List.getElem?_eq_getElem this]
  exact q _ (List.getElem_mem this)
theorem ix_nat {k : Nat} (h : k < xs.length) (q : P xs[k]) : okO ((ixD xs.length (k : Int)).bind fun j => xs[j]?) P := by
  unfold ixD
  rw [if_pos (by omega), if_pos (by omega)]
  show okO (xs[((k : Nat) : Int).toNat]?) P
  rw [Int.toNat_natCast, List.getElem?_eq_getElem h]
  exact q
theorem sm {i : Int} (h : i.natAbs < 2 ^ 128) : small i = true := by
  unfold small lim
  rw [decide_eq_true_iff]
  exact Nat.lt_trans h (Nat.pow_lt_pow_right (by decide) (by decide))
/-! lengths, types -/
@[simp] theorem okO_lenL : okO (biLen T [.lst xs]) P ↔ P (.int xs.length) := Iff.rfl
@[simp] theorem okO_lenT : okO (biLen T [.tup xs]) P ↔ P (.int xs.length) := Iff.rfl
@[simp] theorem okO_max2 : okO (biMax2 T [.int i, .int j]) P ↔ P (.int (if j > i then j else i)) := Iff.rfl
@[simp] theorem okO_min2 : okO (biMin2 T [.int i, .int j]) P ↔ P (.int (if j < i then j else i)) := Iff.rfl
@[simp] theorem okO_intI : okO (biInt T [.int i]) P ↔ P (.int i) := Iff.rfl
@[simp] theorem okO_intB {b : Bool} : okO (biInt T [.bl b]) P ↔ P (.int (if b then 1 else 0)) := Iff.rfl
@[simp] theorem okO_tupleL : okO (biTuple T [.lst xs]) P ↔ P (.tup xs) := Iff.rfl
@[simp] theorem okO_listT : okO (biList T [.tup xs]) P ↔ P (.lst xs) := Iff.rfl
@[simp] theorem okO_listL : okO (biList T [.lst xs]) P ↔ P (.lst xs) := Iff.rfl
@[simp] theorem sz_eq : sz = 1000000 := rfl
@[simp] theorem okO_lenR {ns : List Int} : okO (biLen T [.scr ns]) P ↔ P (.int ns.length) := Iff.rfl
theorem ixR_nat {ns : List Int} {k : Nat} (h : k < ns.length) : okO (opIx T (.scr ns) (.int k)) P ↔ P (.int ns[k]) := by
  unfold opIx ixD
  simp [h]
@[simp] theorem okO_lenO : okO (biLen ⟨env, st⟩ [.obj n]) P ↔ okO (lenD ⟨env, st⟩ (.obj n)) fun m => P (.int m) := by
  unfold biLen
  simp only []
  cases lenD ⟨env, st⟩ (.obj n) <;> rfl
/-! statements that change an object -/
def okIx (o : Option MO) (j : Int) (d : D) (Q : MO → Prop) : Prop := match o with
  | some (.lst xs) => match ixD xs.length j with
    | some p => isTmp d = false ∧ Q (.lst (xs.set p d))
    | none => False
  | _ => False
@[simp] theorem okIx_lst {Q : MO → Prop} : okIx (some (.lst xs)) j d Q ↔ okO (ixD xs.length j) fun p => isTmp d = false ∧ Q (.lst (xs.set p d)) := by
  unfold okIx
  cases h : ixD xs.length j <;> simp [h]
@[simp] theorem okS_setIx : okS (sSetIx ma mb mc T) Qn R ↔ okM (mc T) fun d T1 => okM (ma T1) fun x T2 => okM (mb T2) fun y T3 =>
    (∃ n j, x = .obj n ∧ y = .int j ∧ okIx T3.st[n]? j d fun o => Qn (setS T3 n o)) ∨ (∃ n j xs, x = .own n ∧ y = .int j ∧ T3.env[n]? = some (.own (.lst xs)) ∧ okO (ixD xs.length j) fun p => isTmp d = false ∧ Qn (setO T3 n (.lst (xs.set p d)))) := by
  unfold sSetIx
  simp only [okS_sOf]
  have key : ∀ (d x y : D) (T3 : MT), okS ((match x, y with
      | .obj n, .int j => match T3.st[n]? with
        | some (.lst xs) => match ixD xs.length j with
          | some p => if isTmp d then .stuck else .nx (setS T3 n (.lst (xs.set p d)))
          | none => .stuck
        | _ => .stuck
      | .own i, .int j => match T3.env[i]? with
        | some (.own (.lst xs)) => match ixD xs.length j with
          | some p => if isTmp d then .stuck else .nx (setO T3 i (.lst (xs.set p d)))
          | none => .stuck
        | _ => .stuck
      | _, _ => .stuck) : SO) Qn R ↔ ((∃ n j, x = .obj n ∧ y = .int j ∧ okIx T3.st[n]? j d fun o => Qn (setS T3 n o)) ∨ (∃ n j xs, x = .own n ∧ y = .int j ∧ T3.env[n]? = some (.own (.lst xs)) ∧ okO (ixD xs.length j) fun p => isTmp d = false ∧ Qn (setO T3 n (.lst (xs.set p d))))) := by
    intro d x y T3
    cases x <;> cases y <;> simp
    · rename_i n j
      cases h : T3.st[n]? with
      | none => simp [okIx]
      | some o =>
        cases o <;> simp [okIx]
        rename_i xs
        cases ixD xs.length j with
        | none => simp
        | some p => cases isTmp d <;> simp
    · rename_i n j
      cases h : T3.env[n]? with
      | none => simp
      | some o =>
        cases o with
        | own o =>
          cases o <;> simp
          rename_i xs
          cases ixD xs.length j with
          | none => simp
          | some p => cases isTmp d <;> simp
        | _ => simp
  constructor
  · intro h
    exact okM_imp h fun d T1 h => okM_imp h fun x T2 h => okM_imp h fun y T3 h => (key d x y T3).mp h
  · intro h
    exact okM_imp h fun d T1 h => okM_imp h fun x T2 h => okM_imp h fun y T3 h => (key d x y T3).mpr h
end
end FL

set_option Elab.async false
set_option linter.all false
set_option maxRecDepth 100000
set_option maxHeartbeats 1000000
set_option exponentiation.threshold 20000
/-! FM3: loops, comprehensions, own lists, read as promises. -/
namespace FL
open PySem L2
section
variable {T : MT} {env : List Sl} {st : List MO} {R : D → MT → Prop} {Qn : MT → Prop} {Qa : List D → MT → Prop} {g : Tg} {body : MS} {mr src : M (List D)} {ma : M D} {test : M Bool} {elt : M D} {vs : List Nat} {xs : List D}
theorem okS_for : okS (sFor src g body T) Qn R ↔ okM (src T) fun xs T1 => okS (forL g body xs T1) Qn R := by simp [sFor]
theorem forL_ok (Inv : Nat → MT → Prop) (h0 : Inv 0 T) (hs : ∀ (k : Nat) (x : D) (T : MT), xs[k]? = some x → Inv k T → ∃ T1, g x T = some T1 ∧ okS (body T1) (Inv (k + 1)) R) (hd : ∀ T, Inv xs.length T → Qn T) : okS (forL g body xs T) Qn R := by
  have key : ∀ (n k : Nat) (T : MT), n = xs.length - k → k ≤ xs.length → Inv k T → okS (forL g body (xs.drop k) T) Qn R := by
    intro n
    induction n with
    | zero =>
      intro k T hn hk hi
      have : k = xs.length := by omega
      subst this
      rw [List.drop_length]
      exact hd T hi
    | succ n ih =>
      intro k T hn hk hi
      have hlt : k < xs.length := by omega
      rw [List.drop_eq_getElem_cons hlt]
      obtain ⟨T1, e, q⟩ := hs k xs[k] T (List.getElem?_eq_getElem hlt) hi
      unfold forL
      rw [e]
      cases hb : body T1 with
      | nx T2 =>
        rw [hb] at q
        simp only [hb]
        exact ih (k + 1) T2 (by omega) (by omega) q
      | rt d T2 =>
        rw [hb] at q
        simp only [hb]
        exact q
      | _ => rw [hb] at q; exact q.elim
  have := key (xs.length - 0) 0 T rfl (Nat.zero_le _) h0
  rwa [List.drop_zero] at this
@[simp] theorem gNm_mk {n : Nat} {x : D} (h : isTmp x = false) : gNm n x ⟨env, st⟩ = some ⟨env.set n (.val x), st⟩ := by simp [gNm, h]
/-! comprehensions -/
theorem okM_fComp : okM (fComp vs src g test elt T) Qa ↔ okM (src T) fun xs T1 => okM (compL vs g test elt xs [] T1) fun acc T2 => Qa acc { T2 with env := restL T1.env T2.env vs } := by
  unfold fComp
  rw [okM_bnd]
  have : ∀ (xs : List D) (T1 : MT), okM (match compL vs g test elt xs [] T1 with | .ok acc T' => .ok acc { T' with env := restL T1.env T'.env vs } | _ => .stuck) Qa ↔ okM (compL vs g test elt xs [] T1) fun acc T2 => Qa acc { T2 with env := restL T1.env T2.env vs } := fun xs T1 => by cases compL vs g test elt xs [] T1 <;> rfl
  exact ⟨fun h => okM_imp h fun xs T1 q => (this xs T1).mp q, fun h => okM_imp h fun xs T1 q => (this xs T1).mpr q⟩
theorem rest_wipe {e0 e e' : List Sl} (h : wipeL e vs = wipeL e' vs) : restL e0 e vs = restL e0 e' vs := by
  apply List.ext_getElem?
  intro i
  have hl : e.length = e'.length := by
    have := congrArg List.length h
    rwa [wipeL_len, wipeL_len] at this
  rw [restL_get, restL_get, hl]
  by_cases hi : i ∈ vs ∧ i < e'.length
  · rw [if_pos hi, if_pos hi]
  · rw [if_neg hi, if_neg hi]
    have := congrArg (·[i]?) h
    simp only [wipeL_get, hl, if_neg hi] at this
    exact this
theorem compL_ok {B : List Sl} (Inv : Nat → List D → List MO → Prop)
    (hs : ∀ (k : Nat) (acc : List D) (st : List MO) (x : D), xs[k]? = some x → Inv k acc st → ∃ T1, g x ⟨B, st⟩ = some T1 ∧ okM (test T1) fun b T2 => if b = true then okM (elt T2) (fun d T3 => isTmp d = false ∧ acc.length < sz ∧ wipeL T3.env vs = B ∧ Inv (k + 1) (acc ++ [d]) T3.st) else wipeL T2.env vs = B ∧ Inv (k + 1) acc T2.st) :
    ∀ (T : MT) (acc : List D), wipeL T.env vs = B → Inv 0 acc T.st → okM (compL vs g test elt xs acc T) fun acc' T' => wipeL T'.env vs = B ∧ Inv xs.length acc' T'.st := by
  have key : ∀ (n k : Nat) (T : MT) (acc : List D), n = xs.length - k → k ≤ xs.length → wipeL T.env vs = B → Inv k acc T.st → okM (compL vs g test elt (xs.drop k) acc T) fun acc' T' => wipeL T'.env vs = B ∧ Inv xs.length acc' T'.st := by
    intro n
    induction n with
    | zero =>
      intro k T acc hn hk hw hi
      have : k = xs.length := by omega
      subst this
      rw [List.drop_length]
      exact ⟨hw, hi⟩
    | succ n ih =>
      intro k T acc hn hk hw hi
      have hlt : k < xs.length := by omega
      rw [List.drop_eq_getElem_cons hlt]
      obtain ⟨T1, e, q⟩ := hs k acc T.st xs[k] (List.getElem?_eq_getElem hlt) hi
      have hwT : wipeT vs T = ⟨B, T.st⟩ := by
        unfold wipeT
        rw [hw]
      unfold compL
      rw [hwT, e]
      simp only []
      cases ht : test T1 with
      | ok b T2 =>
        rw [ht] at q
        cases b with
        | true =>
          simp only []
          have q : okM (elt T2) (fun d T3 => isTmp d = false ∧ acc.length < sz ∧ wipeL T3.env vs = B ∧ Inv (k + 1) (acc ++ [d]) T3.st) := q
          cases he : elt T2 with
          | ok d T3 =>
            rw [he] at q
            obtain ⟨q1, q2, q3, q4⟩ := q
            simp only []
            rw [if_neg (by rw [q1]; simp only [Bool.false_or, decide_eq_true_eq]; omega)]
            exact ih (k + 1) T3 _ (by omega) (by omega) q3 q4
          | _ => rw [he] at q; exact q.elim
        | false =>
          simp only []
          have q : wipeL T2.env vs = B ∧ Inv (k + 1) acc T2.st := q
          exact ih (k + 1) T2 acc (by omega) (by omega) q.1 q.2
      | _ => rw [ht] at q; exact q.elim
  intro T acc hw hi
  have := key (xs.length - 0) 0 T acc rfl (Nat.zero_le _) hw hi
  rwa [List.drop_zero] at this
/-- a comprehension by an invariant -/
theorem comp_ok (Inv : Nat → List D → List MO → Prop) (h0 : Inv 0 [] st)
    (hs : ∀ (k : Nat) (acc : List D) (st : List MO) (x : D), xs[k]? = some x → Inv k acc st → ∃ T1, g x ⟨wipeL env vs, st⟩ = some T1 ∧ okM (test T1) fun b T2 => if b = true then okM (elt T2) (fun d T3 => isTmp d = false ∧ acc.length < sz ∧ wipeL T3.env vs = wipeL env vs ∧ Inv (k + 1) (acc ++ [d]) T3.st) else wipeL T2.env vs = wipeL env vs ∧ Inv (k + 1) acc T2.st)
    (hq : ∀ acc st', Inv xs.length acc st' → Qa acc ⟨restL env env vs, st'⟩) : okM (compL vs g test elt xs [] ⟨env, st⟩) fun acc T2 => Qa acc { T2 with env := restL env T2.env vs } :=
  okM_imp (compL_ok (B := wipeL env vs) Inv hs ⟨env, st⟩ [] rfl h0) fun acc T2 ⟨h1, h2⟩ => by
    rw [rest_wipe (e := T2.env) (e' := env) h1]
    exact hq acc T2.st h2
/-- .. that changes nothing: the things that pass, each as f says -/
theorem comp_pure (p : D → Bool) (f : D → D) (hl : xs.length ≤ sz)
    (hs : ∀ x ∈ xs, ∃ T1, g x ⟨wipeL env vs, st⟩ = some T1 ∧ okM (test T1) fun b T2 => b = p x ∧ if p x = true then okM (elt T2) (fun d T3 => isTmp d = false ∧ d = f x ∧ wipeL T3.env vs = wipeL env vs ∧ T3.st = st) else wipeL T2.env vs = wipeL env vs ∧ T2.st = st)
    (hq : Qa ((xs.filter p).map f) ⟨restL env env vs, st⟩) : okM (compL vs g test elt xs [] ⟨env, st⟩) fun acc T2 => Qa acc { T2 with env := restL env T2.env vs } := by
  refine comp_ok (fun k acc st' => st' = st ∧ acc = ((xs.take k).filter p).map f) ⟨rfl, by simp⟩ (fun k acc st' x hx hi => ?_) fun acc st' hi => ?_
  · obtain ⟨rfl, rfl⟩ := hi
    obtain ⟨T1, h1, h2⟩ := hs x (List.mem_of_getElem? hx)
    have hk : k < xs.length := (List.getElem?_eq_some_iff.mp hx).1
    have tk : xs.take (k + 1) = xs.take k ++ [x] := by rw [List.take_add_one, hx]; rfl
    refine ⟨T1, h1, okM_imp h2 fun b T2 ⟨e, q⟩ => ?_⟩
    subst e
    cases hp : p x with
    | true =>
      rw [if_pos rfl]
      rw [hp, if_pos rfl] at q
      refine okM_imp q fun d T3 ⟨q1, q2, q3, q4⟩ => ⟨q1, ?_, q3, q4, ?_⟩
      · have l1 : (((xs.take k).filter p).map f).length ≤ k := by
          rw [List.length_map]
          exact Nat.le_trans (List.length_filter_le _ _) (by rw [List.length_take]; omega)
        omega
      · rw [tk, List.filter_append, List.map_append, q2]
        simp [List.filter_cons, hp]
    | false =>
      rw [if_neg (by simp)]
      rw [hp, if_neg (by simp)] at q
      refine ⟨q.1, q.2, ?_⟩
      rw [tk, List.filter_append]
      simp [List.filter_cons, hp]
  · obtain ⟨rfl, rfl⟩ := hi
    rw [List.take_length]
    exact hq
theorem fComp_ok (h : okM (src T) fun xs T1 => ∃ Inv : Nat → List D → List MO → Prop, Inv 0 [] T1.st ∧
    (∀ (k : Nat) (acc : List D) (st : List MO) (x : D), xs[k]? = some x → Inv k acc st → ∃ T2, g x ⟨wipeL T1.env vs, st⟩ = some T2 ∧ okM (test T2) fun b T3 => if b = true then okM (elt T3) (fun d T4 => isTmp d = false ∧ acc.length < sz ∧ wipeL T4.env vs = wipeL T1.env vs ∧ Inv (k + 1) (acc ++ [d]) T4.st) else wipeL T3.env vs = wipeL T1.env vs ∧ Inv (k + 1) acc T3.st) ∧
    ∀ acc st', Inv xs.length acc st' → Qa acc ⟨restL T1.env T1.env vs, st'⟩) : okM (fComp vs src g test elt T) Qa := okM_fComp.mpr (okM_imp h fun xs T1 ⟨J, h0, hs, hq⟩ => comp_ok (env := T1.env) (st := T1.st) J h0 hs hq)
theorem fComp_pure (p : D → Bool) (f : D → D) (h : okM (src T) fun xs T1 => xs.length ≤ sz ∧
    (∀ x ∈ xs, ∃ T2, g x ⟨wipeL T1.env vs, T1.st⟩ = some T2 ∧ okM (test T2) fun b T3 => b = p x ∧ if p x = true then okM (elt T3) (fun d T4 => isTmp d = false ∧ d = f x ∧ wipeL T4.env vs = wipeL T1.env vs ∧ T4.st = T1.st) else wipeL T3.env vs = wipeL T1.env vs ∧ T3.st = T1.st) ∧
    Qa ((xs.filter p).map f) ⟨restL T1.env T1.env vs, T1.st⟩) : okM (fComp vs src g test elt T) Qa := okM_fComp.mpr (okM_imp h fun xs T1 ⟨hl, hs, hq⟩ => comp_pure (env := T1.env) (st := T1.st) p f hl hs hq)
theorem sFor_ok (h : okM (src T) fun xs T1 => ∃ Inv : Nat → MT → Prop, Inv 0 T1 ∧ (∀ (k : Nat) (x : D) (T2 : MT), xs[k]? = some x → Inv k T2 → ∃ T3, g x T2 = some T3 ∧ okS (body T3) (Inv (k + 1)) R) ∧ ∀ T2, Inv xs.length T2 → Qn T2) : okS (sFor src g body T) Qn R :=
  okS_for.mpr (okM_imp h fun xs T1 ⟨J, h0, hs, hd⟩ => forL_ok J h0 hs hd)
theorem toBls_mapF {q : D → Bool} : ∀ ys : List D, toBls (ys.map fun x => .bl (q x)) = some (ys.map q)
  | [] => rfl
  | y :: ys => by simp [toBls, toBls_mapF ys]
@[simp] theorem okO_all {q : D → Bool} {P : D → Prop} : okO (biAll T [.lst (xs.map fun x => .bl (q x))]) P ↔ P (.bl (xs.all q)) := by
  unfold biAll listOf
  simp [toBls_mapF]
@[simp] theorem okM_itSeq : okM (itSeq ma T) Qa ↔ okM (ma T) fun x T1 => okO (seqOf x) fun xs => Qa xs T1 := by simp [itSeq]
@[simp] theorem seqOf_lst : seqOf (.lst xs) = some xs := rfl
@[simp] theorem seqOf_tup : seqOf (.tup xs) = some xs := rfl
@[simp] theorem okM_itRange1 : okM (itRange1 ma T) Qa ↔ okM (ma T) fun x T1 => okO (rg1 x) fun xs => Qa xs T1 := by simp [itRange1]
@[simp] theorem okO_rg1 {n : Int} {P : List D → Prop} : okO (rg1 (.int n)) P ↔ rgOk 0 n = true ∧ P (rgD 0 n) := by
  unfold rg1
  by_cases h : rgOk 0 n = true <;> simp [h]
@[simp] theorem okM_itStr : okM (itStr ma T) Qa ↔ okM (ma T) fun x T1 => okO (signsD x) fun xs => Qa xs T1 := by simp [itStr]
@[simp] theorem signsD_str {z : Str} : signsD (.str z) = some (z.cps.toList.map fun c => .str ⟨#[c]⟩) := rfl
theorem rgD_len {n : Int} : (rgD 0 n).length = n.toNat := by simp [rgD]
theorem rgD_get {n : Int} {k : Nat} {x : D} (h : (rgD 0 n)[k]? = some x) : x = .int k ∧ k < n.toNat := by
  unfold rgD at h
  rw [List.getElem?_map] at h
  have hk : k < n.toNat := by
    by_cases hk : k < (n - 0).toNat
    · simpa using hk
    · rw [List.getElem?_eq_none (by simpa using hk)] at h
      cases h
  rw [List.getElem?_range (by simpa using hk)] at h
  simp at h
  exact ⟨h.symm, hk⟩
/-! own lists -/
def okAp (o : Option Sl) (P : List D → Prop) : Prop := match o with
  | some (.own (.lst xs)) => P xs
  | _ => False
@[simp] theorem okAp_own {P : List D → Prop} : okAp (some (.own (.lst xs))) P ↔ P xs := Iff.rfl
@[simp] theorem okS_app {n : Nat} : okS (sApp n ma T) Qn R ↔ okAp T.env[n]? fun _ => okM (ma T) fun d T1 => okAp T1.env[n]? fun xs => (isTmp d = false ∧ xs.length < sz) ∧ Qn (setO T1 n (.lst (xs ++ [d]))) := by
  have key : ∀ (d : D) (T1 : MT), okS ((match T1.env[n]? with
    | some (.own (.lst xs)) => if isTmp d || decide (sz ≤ xs.length) then .stuck else .nx (setO T1 n (.lst (xs ++ [d])))
    | _ => .stuck) : SO) Qn R ↔ okAp T1.env[n]? fun xs => (isTmp d = false ∧ xs.length < sz) ∧ Qn (setO T1 n (.lst (xs ++ [d]))) := by
    intro d T1
    cases h : T1.env[n]? with
    | none => simp [okAp]
    | some o =>
      cases o with
      | own o =>
        cases o <;> simp [okAp]
        rename_i xs
        cases hd : isTmp d with
        | true => simp
        | false =>
          by_cases hl : 1000000 ≤ xs.length
          · simp [hl]
            intro z
            omega
          · simp [hl]
            omega
      | _ => simp [okAp]
  show okS (match T.env[n]? with
    | some (.own (.lst _)) => sOf (ma T) fun d T => match T.env[n]? with
      | some (.own (.lst xs)) => if isTmp d || decide (sz ≤ xs.length) then .stuck else .nx (setO T n (.lst (xs ++ [d])))
      | _ => .stuck
    | _ => .stuck) Qn R ↔ _
  cases h : T.env[n]? with
  | none => exact Iff.rfl
  | some o =>
    cases o with
    | own o =>
      cases o with
      | lst xs =>
        show okS (sOf (ma T) _) Qn R ↔ okM (ma T) _
        rw [okS_sOf]
        exact ⟨fun h => okM_imp h fun d T1 q => (key d T1).mp q, fun h => okM_imp h fun d T1 q => (key d T1).mpr q⟩
      | _ => exact Iff.rfl
    | _ => exact Iff.rfl
@[simp] theorem okM_mFrz {n : Nat} : okM (mFrz n ⟨env, st⟩) R ↔ okFz env[n]? fun d => R d ⟨(match env[n]? with | some (.own _) => env.set n (.val d) | _ => env), st⟩ := by
  unfold mFrz okFz
  cases h : env[n]? with
  | none => simp [h]
  | some s =>
    cases s with
    | own o => cases o <;> simp [h]
    | _ => simp [h]
/-! a def that a slot holds, the tables of the top -/
def okGl (o : Option Sl) (P : Str → Prop) : Prop := match o with
  | some (.val (.gl x)) => P x
  | _ => False
@[simp] theorem okGl_gl {x : Str} {P : Str → Prop} : okGl (some (.val (.gl x))) P ↔ P x := Iff.rfl
@[simp] theorem okM_callV {i n : Nat} {tab : List (Str × MF)} : okM (mCallV i n tab mr ⟨env, st⟩) R ↔ okGl env[i]? fun x => okO (tab.lookup x) fun mf => okM (mr ⟨env, st⟩) fun ds T1 => (noTmp ds = true ∧ (ds ++ []).length = n) ∧ okF (mf (ds ++ []) T1.st) fun d st => R d { T1 with st := st } := by
  have aux : ∀ mf, okM (bnd mr (fun ds => callF n mf [] ds) ⟨env, st⟩) R ↔ okM (mr ⟨env, st⟩) fun ds T1 => (noTmp ds = true ∧ (ds ++ []).length = n) ∧ okF (mf (ds ++ []) T1.st) fun d st => R d { T1 with st := st } := fun mf => by
    rw [okM_bnd]
    simp only [okM_callF]
  unfold mCallV okGl
  cases h : env[i]? with
  | none => simp [h]
  | some s =>
    cases s with
    | val d =>
      cases d <;> simp [h]
      rename_i x
      cases h2 : tab.lookup x with
      | none => simp
      | some mf => simpa using aux mf
    | _ => simp [h]
@[simp] theorem okO_tix {x k : Str} {tab : List (Str × D)} {P : D → Prop} : okO (opTIx x tab T (.gl x) (.str k)) P ↔ okO (tab.lookup k) P := by simp [opTIx]
@[simp] theorem okO_tin {x k : Str} {tab : List (Str × D)} {P : Bool → Prop} : okO (opTIn x tab T (.str k) (.gl x)) P ↔ P (tab.lookup k).isSome := by simp [opTIn]
@[simp] theorem okO_tnin {x k : Str} {tab : List (Str × D)} {P : Bool → Prop} : okO (opTNotIn x tab T (.str k) (.gl x)) P ↔ P (!(tab.lookup k).isSome) := by simp [opTNotIn, opTIn]
@[simp] theorem okM_itZip {mb : M D} : okM (itZip ma mb T) Qa ↔ okM (ma T) fun x T1 => okM (mb T1) fun y T2 => okO (zipD x y) fun xs => Qa xs T2 := by simp [itZip]
@[simp] theorem zipD_tup {ys : List D} : zipD (.tup xs) (.tup ys) = some (List.zipWith (fun x y => .tup [x, y]) xs ys) := rfl
@[simp] theorem zipD_lst {ys : List D} : zipD (.lst xs) (.lst ys) = some (List.zipWith (fun x y => .tup [x, y]) xs ys) := rfl
@[simp] theorem slice_tup {lo hi : Option Int} : slice T (.tup xs) lo hi = some (.tup (cutD xs lo hi)) := rfl
@[simp] theorem slice_lst {lo hi : Option Int} : slice T (.lst xs) lo hi = some (.lst (cutD xs lo hi)) := rfl
@[simp] theorem okO_sliceS {z : Str} {lo hi : Option Int} {P : D → Prop} : okO (slice T (.str z) lo hi) P ↔ z.length ≤ sz ∧ P (.str ⟨(cutD z.cps.toList lo hi).toArray⟩) := by
  unfold slice
  by_cases h : z.length ≤ 1000000 <;> simp [h]
@[simp] theorem okO_lenS {z : Str} {P : D → Prop} : okO (biLen T [.str z]) P ↔ z.length ≤ sz ∧ P (.int z.length) := by
  unfold biLen lenD
  by_cases h : z.length ≤ 1000000 <;> simp [h]
theorem okO_inS {c : Nat} {z : Str} {P : Bool → Prop} : okO (opIn T (.str ⟨#[c]⟩) (.str z)) P ↔ P (decide (c ∈ z.cps.toList)) := by
  unfold opIn
  simp
@[simp] theorem okO_inT {z : Str} {P : Bool → Prop} : okO (opIn T (.str z) (.tup xs)) P ↔ xs.all flatD = true ∧ P (xs.any fun y => eqF y (.str z)) := by
  unfold opIn
  simp only [vw, flatD, Bool.true_and]
  by_cases h : xs.all flatD = true
  · rw [if_pos h]
    simp only [okO_some, h, true_and]
  · rw [if_neg h]
    exact ⟨fun q => q.elim, fun q => h q.1⟩
@[simp] theorem okO_notIn {x y : D} {P : Bool → Prop} : okO (opNotIn T x y) P ↔ okO (opIn T x y) fun b => P (!b) := okO_mapB
@[simp] theorem okO_dNotIn {x y : D} {P : Bool → Prop} : okO (opDNotIn T x y) P ↔ okO (opDIn T x y) fun b => P (!b) := okO_mapB
@[simp] theorem okO_dIn {k : Str} {ks : List Ky} {P : Bool → Prop} : okO (opDIn T (.str k) (.dic ks xs)) P ↔ P (lookD ks xs (.inr k)).isSome := Iff.rfl
@[simp] theorem okO_dget {k : Str} {ks : List Ky} {P : D → Prop} : okO (opDGet T (.dic ks xs) (.str k)) P ↔ okO (lookD ks xs (.inr k)) P := Iff.rfl
@[simp] theorem okM_mDict {ks : List Str} {ms : List (M D)} : okM (mDict ks ms T) R ↔ okM (aAll ms T) fun ds T1 => (noTmp ds = true ∧ (ks.map (Sum.inr : Str → Ky)).length = ds.length) ∧ R (.dic (ks.map Sum.inr) ds) T1 := by
  unfold mDict mDic
  simp only [okM_bnd, okM_lift]
  have : ∀ (ds : List D) (T1 : MT), okO (if (noTmp ds && decide ((ks.map (Sum.inr : Str → Ky)).length = ds.length)) = true then some (D.dic (ks.map Sum.inr) ds) else none) (fun a => R a T1) ↔ ((noTmp ds = true ∧ (ks.map (Sum.inr : Str → Ky)).length = ds.length) ∧ R (.dic (ks.map Sum.inr) ds) T1) := fun ds T1 => by
    by_cases h : noTmp ds = true ∧ (ks.map (Sum.inr : Str → Ky)).length = ds.length
    · rw [if_pos (by simpa using h)]
      simp only [okO_some, h, true_and, and_self]
    · rw [if_neg (by simpa using h)]
      simp only [okO_none, false_iff]
      exact fun q => h q.1
  exact ⟨fun h => okM_imp h fun ds T1 q => (this ds T1).mp q, fun h => okM_imp h fun ds T1 q => (this ds T1).mpr q⟩
@[simp] theorem okM_aAll0 : okM (aAll [] T) Qa ↔ Qa [] T := Iff.rfl
@[simp] theorem okM_aAll1 {m : M D} {ms : List (M D)} : okM (aAll (m :: ms) T) Qa ↔ okM (m T) fun x T1 => okM (aAll ms T1) fun xs T2 => Qa (x :: xs) T2 := by
  show okM (aCons m (aAll ms) T) Qa ↔ _
  rw [okM_aCons]
@[simp] theorem gTp_mk {gs : Tgs} : gTp gs (.tup xs) T = gs xs T := rfl
@[simp] theorem gLs_mk {gs : Tgs} : gLs gs (.lst xs) T = gs xs T := rfl
@[simp] theorem gNil_mk : gNil [] T = some T := rfl
@[simp] theorem gCons_mk {gs : Tgs} {n : Nat} {d : D} (h : isTmp d = false) : gCons (gNm n) gs (d :: xs) ⟨env, st⟩ = gs xs ⟨env.set n (.val d), st⟩ := by
  show (gNm n d ⟨env, st⟩).bind (gs xs) = _
  rw [gNm_mk h]
  rfl
theorem okS_asg : okS (sAsg ma g T) Qn R ↔ okM (ma T) fun d T1 => okO (g d T1) Qn := by
  unfold sAsg
  rw [okS_sOf]
  have : ∀ d T1, okS (match g d T1 with | some T2 => SO.nx T2 | none => SO.stuck) Qn R ↔ okO (g d T1) Qn := fun d T1 => by cases g d T1 <;> rfl
  exact ⟨fun h => okM_imp h fun d T1 q => (this d T1).mp q, fun h => okM_imp h fun d T1 q => (this d T1).mpr q⟩
@[simp] theorem okS_par {i j : Nat} : okS (sPar i j mr T) Qn R ↔ okM (mr T) fun ds T1 => ∃ d e, ds = [d, e] ∧ (isTmp d = false ∧ isTmp e = false) ∧ Qn (setV (setV T1 i d) j e) := by
  unfold sPar
  rw [okS_sOf]
  have : ∀ (ds : List D) (T1 : MT), okS (match ds with | [d, e] => if isTmp d || isTmp e then .stuck else .nx (setV (setV T1 i d) j e) | _ => .stuck) Qn R ↔ ∃ d e, ds = [d, e] ∧ (isTmp d = false ∧ isTmp e = false) ∧ Qn (setV (setV T1 i d) j e) := fun ds T1 => by
    match ds with
    | [] => simp
    | [d] => simp
    | [d, e] =>
      constructor
      · intro q
        cases h1 : isTmp d <;> cases h2 : isTmp e <;> simp [h1, h2] at q
        exact ⟨d, e, rfl, ⟨h1, h2⟩, q⟩
      · rintro ⟨d', e', hh, ⟨h1, h2⟩, q⟩
        cases hh
        simpa [h1, h2] using q
    | a :: b :: c :: r => simp
  exact ⟨fun h => okM_imp h fun d T1 q => (this d T1).mp q, fun h => okM_imp h fun d T1 q => (this d T1).mpr q⟩
@[simp] theorem okS_par0 {i j : Nat} : okS (sPar0 i j T) Qn R ↔ Qn (setO (setO T i (.lst [])) j (.lst [])) := Iff.rfl
@[simp] theorem okO_lenW {n : Nat} {P : D → Prop} : okO (biLen ⟨env, st⟩ [.own n]) P ↔ okAp env[n]? fun xs => P (.int xs.length) := by
  unfold biLen lenD okAp
  simp only [vw]
  cases h : env[n]? with
  | none => exact Iff.rfl
  | some o =>
    cases o with
    | own o => cases o <;> exact Iff.rfl
    | _ => exact Iff.rfl
@[simp] theorem okO_tupleW {n : Nat} {P : D → Prop} : okO (biTuple ⟨env, st⟩ [.own n]) P ↔ okAp env[n]? fun xs => P (.tup xs) := by
  unfold biTuple okAp
  simp only [vw]
  cases h : env[n]? with
  | none => exact Iff.rfl
  | some o =>
    cases o with
    | own o => cases o <;> exact Iff.rfl
    | _ => exact Iff.rfl
theorem ixD_neg1 {n : Nat} (h : 0 < n) : ixD n (-1) = some (n - 1) := by
  unfold ixD
  rw [if_neg (by omega), if_pos (by omega)]
  congr 1
  omega
theorem ix_last {P : D → Prop} (h : 0 < xs.length) (q : ∀ d ∈ xs, P d) : okO ((ixD xs.length (-1)).bind fun j => xs[j]?) P := by
  rw [ixD_neg1 h]
  have hk : xs.length - 1 < xs.length := by omega
  show okO (xs[xs.length - 1]?) P
  rw [List.getElem?_eq_getElem hk]
  exact q _ (List.getElem_mem hk)
end
end FL

set_option Elab.async false
set_option linter.all false
set_option maxRecDepth 100000
set_option maxHeartbeats 1000000
set_option exponentiation.threshold 20000
/-! FM4: a comprehension over an own list. -/
namespace FL
open PySem L2
section
variable {T : MT} {env : List Sl} {st : List MO} {R : D → MT → Prop} {Qn : MT → Prop} {Qa : List D → MT → Prop} {g : Tg} {mr src : M (List D)} {ma : M D} {test : M Bool} {elt : M D} {vs : List Nat} {xs : List D}
theorem fCompO_pure (p : D → Bool) (f : D → D) {i : Nat} (h : okAp env[i]? fun xs => xs.length ≤ sz ∧
    (∀ x ∈ xs, ∃ T2, g x ⟨wipeL (env.set i .emp) vs, st⟩ = some T2 ∧ okM (test T2) fun b T3 => b = p x ∧ if p x = true then okM (elt T3) (fun d T4 => isTmp d = false ∧ d = f x ∧ wipeL T4.env vs = wipeL (env.set i .emp) vs ∧ T4.st = st) else wipeL T3.env vs = wipeL (env.set i .emp) vs ∧ T3.st = st) ∧
    Qa ((xs.filter p).map f) ⟨(restL (env.set i .emp) (env.set i .emp) vs).set i (.own (.lst xs)), st⟩) : okM (fCompO i vs g test elt ⟨env, st⟩) Qa := by
  unfold fCompO
  unfold okAp at h
  cases he : env[i]? with
  | none => rw [he] at h; exact h.elim
  | some s =>
    rw [he] at h
    cases s with
    | own o =>
      cases o with
      | lst xs =>
        obtain ⟨h1, h2, h3⟩ := h
        have q := comp_pure (env := env.set i .emp) (st := st) (vs := vs) (g := g) (test := test) (elt := elt) (Qa := fun acc T => Qa acc ⟨T.env.set i (.own (.lst xs)), T.st⟩) p f h1 h2 h3
        simp only [he]
        cases hc : compL vs g test elt xs [] ⟨env.set i .emp, st⟩ with
        | ok acc T' =>
          rw [hc] at q
          exact q
        | _ => rw [hc] at q; exact q.elim
      | _ => exact h.elim
    | _ => exact h.elim
@[simp] theorem okM_vRg2 {mb : M D} : okM (vRg2 ma mb T) Qa ↔ okM (ma T) fun x T1 => okM (mb T1) fun y T2 => okO (rg2 x y) fun xs => Qa xs T2 := by simp [vRg2]
@[simp] theorem okO_rev {P : D → Prop} : okO (opRev T (.lst xs)) P ↔ P (.lst xs.reverse) := Iff.rfl
end
end FL

set_option Elab.async false
set_option linter.all false
set_option maxRecDepth 100000
set_option maxHeartbeats 1000000
set_option exponentiation.threshold 20000
namespace G_k74
open FL PySem L2
/-! ### the purse -/
def PU (p : Nat) (st : List MO) (k : Nat) : Prop := ∃ a b c : Int, st[p]? = some (.lst [.int a, .int b, .int c]) ∧ 0 ≤ a ∧ 0 ≤ b ∧ b < 2147483563 ∧ 0 ≤ c ∧ c + k ≤ 1000000
theorem PU.mono {p : Nat} {st : List MO} {k j : Nat} (h : PU p st k) (hj : j ≤ k) : PU p st j := by
  obtain ⟨a, b, c, h1, h2, h3, h4, h5, h6⟩ := h
  exact ⟨a, b, c, h1, h2, h3, h4, h5, by omega⟩
theorem take_ok {p k : Nat} {n : Int} {st : List MO} {Q : D → List MO → Prop} (h : PU p st (k + 1)) (h0 : 0 < n) (h1 : n < 2 ^ 64) (q : ∀ (i : Int) (st' : List MO), 0 ≤ i → i < n → PU p st' k → Q (.int i) st') : okF (f_take [.obj p, .int n] st) Q := by
  obtain ⟨a, b, c, g, ha, hb, hb2, hc, hk⟩ := h
  have sn : small n = true := sm (by omega)
  have hp : p < st.length := (List.getElem?_eq_some_iff.mp g).1
  have gp : st[p] = .lst [.int a, .int b, .int c] := (List.getElem?_eq_some_iff.mp g).2
  unfold f_take b_take
  simp [g, ixD, sn, Int.ne_of_gt h0, hp, gp]
  have pu : ∀ {a' c' : Int}, 0 ≤ a' → 0 ≤ c' → c' + k ≤ 1000000 → PU p (st.set p (.lst [.int a', .int b, .int c'])) k := fun {a' c'} z1 z2 z3 => ⟨a', b, c', by simp [hp], z1, hb, hb2, z2, z3⟩
  split
  · exact q _ _ (Int.fmod_nonneg ha (Int.le_of_lt h0)) (Int.fmod_lt_of_pos _ h0) (pu (Int.fdiv_nonneg ha (Int.le_of_lt h0)) hc (by omega))
  · have e1 : 0 ≤ b * (c + 1) := Int.mul_nonneg hb (by omega)
    have e2 : b * (c + 1) ≤ 2147483563 * 1000000 := Int.mul_le_mul (Int.le_of_lt hb2) (by omega) (by omega) (by decide)
    have f1 := Int.fmod_nonneg_of_pos ((b * (c + 1) + 80021) ^ 3) (show (0 : Int) < 2147483587 by decide)
    have f2 := Int.fmod_lt_of_pos ((b * (c + 1) + 80021) ^ 3) (show (0 : Int) < 2147483587 by decide)
    exact ⟨⟨sm (by decide), sm (by omega)⟩, by omega, ⟨sm (by omega), sm (by omega)⟩, by omega, ⟨sm (by decide), sm (by omega)⟩, sm (by decide), q _ _ (Int.fmod_nonneg_of_pos _ h0) (Int.fmod_lt_of_pos _ h0) (pu ha (by omega) (by omega))⟩
/-- a purse is made -/
theorem purse_ok {n : Int} {st : List MO} {Q : D → List MO → Prop} (q : ∀ p st', PU p st' 999999 → Q (.obj p) st') : okF (f_purse [.int n] st) Q := by
  unfold f_purse b_purse
  simp
  refine q _ _ ⟨_, _, 0, by simp; exact ⟨rfl, rfl⟩, ?_, Int.fmod_nonneg_of_pos _ (by decide), Int.fmod_lt_of_pos _ (by decide), by decide, by decide⟩
  split <;> omega
theorem cell_ok {ns : List Int} {k : Nat} {st : List MO} {Q : D → List MO → Prop} (hk : k < 1000000) (q : ∀ n, Q (.int n) st) : okF (f_cell [.scr ns, .int k] st) Q := by
  unfold f_cell b_cell
  simp
  split
  · rename_i h
    rw [ixR_nat h]
    simp [q]
  · exact ⟨⟨sm (by decide), sm (by omega)⟩, q _⟩
end G_k74

set_option Elab.async false
set_option linter.all false
set_option maxRecDepth 100000
set_option maxHeartbeats 1000000
set_option exponentiation.threshold 20000
namespace G_k74
open FL PySem L2
/-- a text of few small signs -/
def okS (s : Str) : Bool := decide (s.length ≤ 1000) && s.cps.toList.all fun c => decide (c < 1000)
theorem okS_len {s : Str} (h : okS s = true) : s.length ≤ 1000 := by
  unfold okS at h
  rw [Bool.and_eq_true] at h
  exact of_decide_eq_true h.1
mutual
def okD : D → Bool
  | .non => true
  | .bl _ => true
  | .int i => decide (i.natAbs < 2 ^ 1900)
  | .str s => okS s
  | .tup xs => decide (xs.length ≤ 1000) && okDs xs
  | .lst xs => decide (xs.length ≤ 1000) && okDs xs
  | .dic [] [] => true
  | _ => false
def okDs : List D → Bool
  | [] => true
  | d :: ds => okD d && okDs ds
end
theorem okDs_mem : ∀ {ds : List D}, okDs ds = true → ∀ d ∈ ds, okD d = true
  | d :: ds, h, x, hx => by
    simp only [okDs, Bool.and_eq_true] at h
    rcases List.mem_cons.mp hx with rfl | hx
    · exact h.1
    · exact okDs_mem h.2 x hx
theorem okDs_of : ∀ {ds : List D}, (∀ d ∈ ds, okD d = true) → okDs ds = true
  | [], _ => rfl
  | d :: ds, h => by
    simp only [okDs, Bool.and_eq_true]
    exact ⟨h d (List.mem_cons_self ..), okDs_of fun x hx => h x (List.mem_cons_of_mem _ hx)⟩
theorem okD_tmp {d : D} (h : okD d = true) : isTmp d = false := by
  cases d <;> first | rfl | simp [okD] at h
theorem okF_eq {o : FO} {x : D} {st : List MO} (h : okF o fun d s => d = x ∧ s = st) : o = .ok x st := by
  cases o with
  | ok d s => obtain ⟨rfl, rfl⟩ := h; rfl
  | _ => exact h.elim
@[simp] theorem okF_ok {d : D} {st : List MO} {Q : D → List MO → Prop} : okF (.ok d st) Q ↔ Q d st := Iff.rfl
def isTup : D → Bool | .tup _ => true | _ => false
def isLst : D → Bool | .lst _ => true | _ => false
def isStr : D → Bool | .str _ => true | _ => false
def isBl : D → Bool | .bl _ => true | _ => false
def isIn : D → Bool | .int _ => true | .bl _ => true | _ => false
theorem isi {T : MT} {d : D} {P : D → Prop} (h : okD d = true) : (okO (biIsi .tup T [d]) P ↔ P (.bl (isTup d))) ∧ (okO (biIsi .lst T [d]) P ↔ P (.bl (isLst d))) ∧ (okO (biIsi .str T [d]) P ↔ P (.bl (isStr d))) ∧ (okO (biIsi .bl T [d]) P ↔ P (.bl (isBl d))) ∧ (okO (biIsi .int T [d]) P ↔ P (.bl (isIn d))) ∧
    (okO (biIsi2 .lst .tup T [d]) P ↔ P (.bl (isLst d || isTup d))) := by
  cases d <;> first | (simp [okD] at h; done) | (simp [biIsi, biIsi2, tyD, vw, isTy, isTup, isLst, isStr, isBl, isIn]; done) | skip
  all_goals simp [biIsi, biIsi2, tyD, vw, isTy, isTup, isLst, isStr, isBl, isIn]
def shortD : D → Bool
  | .int i => decide (-1000000000000000000000000000000 < i) && decide (i < 1000000000000000000000000000000)
  | _ => false
theorem is_number_eq {d : D} {st : List MO} (h : okD d = true) : f_is_number [d] st = .ok (.bl (isIn d && !isBl d)) st := okF_eq (by
  unfold f_is_number b_is_number
  simp [isi h]
  cases isIn d <;> simp)
theorem is_short_eq {d : D} {st : List MO} (h : okD d = true) : f_is_short [d] st = .ok (.bl (shortD d)) st := okF_eq (by
  unfold f_is_short b_is_short f_is_whole b_is_whole
  simp [is_number_eq h, okD_tmp h]
  cases d <;> simp [isIn, isBl, shortD]
  rename_i i
  by_cases h1 : -999999999999999999999999999999 ≤ i
  · have h1' : -1000000000000000000000000000000 < i := by omega
    simp only [h1, h1', decide_true, Bool.true_and, if_true]
    rw [decide_eq_decide]
    omega
  · rw [if_neg h1]
    omega)
theorem short_eq {d : D} {st : List MO} (h : okD d = true) : f_short [d] st = .ok (.bl (shortD d)) st := okF_eq (by
  unfold f_short b_short
  simp [isi h]
  cases d <;> simp [isIn, isBl, shortD]
  rename_i i
  split <;> omega)
def nums (lo hi : Int) : D → Bool
  | .tup xs => decide (lo ≤ xs.length) && decide (xs.length ≤ hi) && xs.all shortD
  | _ => false
theorem tup_len {xs : List D} (h : okD (.tup xs) = true) : xs.length ≤ 1000 ∧ okDs xs = true := by simpa [okD] using h
theorem lst_len {xs : List D} (h : okD (.lst xs) = true) : xs.length ≤ 1000 ∧ okDs xs = true := by simpa [okD] using h
theorem are_so_many_eq {d : D} {lo hi : Int} {st : List MO} (h : okD d = true) : f_are_so_many [d, .int lo, .int hi] st = .ok (.bl (nums lo hi d)) st := okF_eq (by
  unfold f_are_so_many b_are_so_many
  cases d <;> simp [isi h, isTup, nums]
  rename_i xs
  obtain ⟨hl, hx⟩ := tup_len h
  split
  · rename_i h1
    split
    · rename_i h2
      refine fComp_pure (fun _ => true) (fun x => .bl (shortD x)) ?_
      simp [wipeL, restL, keepV]
      refine ⟨by omega, fun x hx' => ?_, ?_⟩
      · have hk := okDs_mem hx x hx'
        simp [okD_tmp hk, short_eq, is_short_eq hk]
      · simp [h1, h2]
    · rename_i h2
      simp [h2]
  · rename_i h1
    simp [h1])
end G_k74

set_option Elab.async false
set_option linter.all false
set_option maxRecDepth 100000
set_option maxHeartbeats 1000000
set_option exponentiation.threshold 20000
namespace G_k74
open FL PySem L2
theorem are_terms_eq {d : D} {st : List MO} (h : okD d = true) : f_are_terms [d] st = .ok (.bl (nums 1 100 d)) st := okF_eq (by
  unfold f_are_terms b_are_terms
  simp [are_so_many_eq h, okD_tmp h])
theorem is_round_eq {d : D} {st : List MO} (h : okD d = true) : f_is_round [d] st = .ok (.bl (nums 1 20 d)) st := okF_eq (by
  unfold f_is_round b_is_round
  simp [are_so_many_eq h, okD_tmp h])
def stepsD (d : D) : Bool := isNonD d || nums 1 20 d
theorem okO_isNon {T : MT} {d : D} {P : Bool → Prop} (h : okD d = true) : okO (opIs T d .non) P ↔ P (isNonD d) := by
  cases d <;> first | rfl | simp [okD] at h
theorem are_steps_eq {d : D} {st : List MO} (h : okD d = true) : f_are_steps [d] st = .ok (.bl (stepsD d)) st := okF_eq (by
  unfold f_are_steps b_are_steps
  simp [is_round_eq h, okD_tmp h, okO_isNon h, stepsD]
  cases isNonD d <;> simp)
def twoD (n : Int) : D → Bool
  | .tup [a, b] => nums n n a && nums n n b
  | _ => false
theorem are_two_eq {d : D} {n : Int} {st : List MO} (h : okD d = true) : f_are_two [d, .int n] st = .ok (.bl (twoD n d)) st := okF_eq (by
  unfold f_are_two b_are_two
  cases d <;> simp [isi h, isTup, twoD]
  rename_i xs
  obtain ⟨hl, hx⟩ := tup_len h
  match xs with
  | [a, b] =>
    simp
    refine fComp_pure (fun _ => true) (fun x => .bl (nums n n x)) ?_
    simp [wipeL, restL, keepV]
    have ha := okDs_mem hx a (by simp)
    have hb := okDs_mem hx b (by simp)
    simp [okD_tmp ha, okD_tmp hb, are_so_many_eq ha, are_so_many_eq hb]
  | [] => simp
  | [a] => simp
  | a :: b :: c :: r => 
    simp
    omega)
theorem are_four_eq {d : D} {st : List MO} (h : okD d = true) : f_are_four [d] st = .ok (.bl (twoD 2 d)) st := okF_eq (by
  unfold f_are_four b_are_four
  simp [are_two_eq h, okD_tmp h])
theorem are_eight_eq {d : D} {st : List MO} (h : okD d = true) : f_are_eight [d] st = .ok (.bl (twoD 4 d)) st := okF_eq (by
  unfold f_are_eight b_are_eight
  simp [are_two_eq h, okD_tmp h])
def mostD : D → Bool
  | .int i => decide (1 ≤ i) && decide (i ≤ 64)
  | _ => false
theorem is_most_eq {d : D} {st : List MO} (h : okD d = true) : f_is_most [d] st = .ok (.bl (mostD d)) st := okF_eq (by
  unfold f_is_most b_is_most f_is_whole b_is_whole
  simp [is_number_eq h, okD_tmp h]
  cases d <;> simp [isIn, isBl, mostD]
  rename_i i
  by_cases h1 : 1 ≤ i <;> simp [h1])
theorem most_eq {d : D} {st : List MO} (h : okD d = true) : f_most [d] st = .ok (.bl (mostD d)) st := okF_eq (by
  unfold f_most b_most
  simp [short_eq h, okD_tmp h]
  cases d <;> simp [mostD, shortD]
  rename_i i
  split
  · rename_i h0
    by_cases h1 : 1 ≤ i <;> simp [h1]
  · rename_i h0
    intro h1
    omega)
def letters : Str := "abcdefghijklmnopqrstuvwxyz"
def lets (z : Str) : Bool := z.cps.toList.all fun c => decide (c ∈ letters.cps.toList)
def nameD : D → Bool
  | .str z => decide ((1 : Int) ≤ z.length) && (decide ((z.length : Int) ≤ 6) && lets z)
  | _ => false
def inLet : D → Bool
  | .str z => decide (z.cps.getD 0 0 ∈ letters.cps.toList)
  | _ => false
theorem empty_filter {α : Type} (p : α → Bool) : ∀ xs : List α, (xs.filter fun x => !p x).isEmpty = xs.all p
  | [] => rfl
  | x :: xs => by
    cases h : p x <;> simp [List.filter_cons, h]
    have := empty_filter p xs
    simpa using this
theorem is_name_eq {d : D} {st : List MO} (h : okD d = true) : f_is_name [d] st = .ok (.bl (nameD d)) st := okF_eq (by
  unfold f_is_name b_is_name f_has_only b_has_only
  cases d <;> simp [isi h, isStr, nameD]
  rename_i z
  have hz : z.length ≤ 1000 := okS_len (by simpa [okD] using h)
  refine ⟨by omega, ?_⟩
  split
  · rename_i h1
    split
    · rename_i h2
      refine fComp_pure (fun _ => true) (fun x => .bl (inLet x)) ?_
      simp [wipeL, restL, keepV, okO_inS, inLet]
      refine ⟨by have : z.cps.size = z.length := rfl; omega, fun a _ => by simp [okO_inS, letters], ?_⟩
      have h1' : (1 : Int) ≤ z.length := h1
      have h2' : (z.length : Int) ≤ 6 := h2
      simp only [h1', h2', decide_true, Bool.true_and]
      unfold lets
      simp [Function.comp_def]
    · rename_i h2
      intro z1 z2
      omega
  · intro z1
    omega)
theorem called_eq {d : D} {st : List MO} (h : okD d = true) : f_called [d] st = .ok (.bl (nameD d)) st := okF_eq (by
  unfold f_called b_called
  cases d <;> simp [isi h, isStr, nameD]
  rename_i z
  have hz : z.length ≤ 1000 := okS_len (by simpa [okD] using h)
  refine ⟨by omega, ?_⟩
  split
  · rename_i h1
    split
    · rename_i h2
      refine fComp_pure (fun x => !inLet x) (fun x => x) ?_
      simp [wipeL, restL, keepV, okO_inS, inLet]
      refine ⟨by have : z.cps.size = z.length := rfl; omega, fun a _ => ?_, ?_⟩
      · simp [okO_inS, letters]
      · have h1' : (1 : Int) ≤ z.length := h1
        have h2' : (z.length : Int) ≤ 6 := h2
        simp only [h1', h2', decide_true, Bool.true_and]
        unfold lets
        rw [empty_filter]
        simp [Function.comp_def]
    · rename_i h2
      intro z1 z2
      omega
  · intro z1
    omega)
def mannerD : D → Bool
  | .str z => ("floor" : Str) == z || (("ceil" : Str) == z || ("near" : Str) == z)
  | _ => false
theorem is_manner_eq {d : D} {st : List MO} (h : okD d = true) : f_is_manner [d] st = .ok (.bl (mannerD d)) st := okF_eq (by
  unfold f_is_manner b_is_manner
  cases d <;> simp [isi h, isStr, mannerD, flatD, eqF])
theorem word_eq {d : D} {st : List MO} (h : okD d = true) : f_word [d] st = .ok (.bl (mannerD d)) st := okF_eq (by
  unfold f_word b_word
  cases d <;> simp [isi h, isStr, mannerD, flatD, eqF])
theorem numbers_eq {d : D} {lo hi : Int} {st : List MO} (h : okD d = true) : f_numbers [d, .int lo, .int hi] st = .ok (.bl (nums lo hi d)) st := okF_eq (by
  unfold f_numbers b_numbers
  cases d <;> simp [isi h, isTup, nums]
  rename_i xs
  obtain ⟨hl, hx⟩ := tup_len h
  split
  · rename_i h1
    split
    · rename_i h2
      refine fComp_pure (fun x => !shortD x) (fun x => x) ?_
      simp [wipeL, restL, keepV]
      refine ⟨by omega, fun x hx' => ?_, ?_⟩
      · have hk := okDs_mem hx x hx'
        simp [okD_tmp hk, short_eq hk]
      · simp [h1, h2]
        exact empty_filter _ _
    · rename_i h2
      simp [h2]
  · rename_i h1
    simp [h1])
end G_k74

set_option Elab.async false
set_option linter.all false
set_option maxRecDepth 100000
set_option maxHeartbeats 2000000
set_option exponentiation.threshold 20000
namespace G_k74
open FL PySem L2
theorem two_rows_eq {d : D} {n : Int} {st : List MO} (h : okD d = true) : f_two_rows [d, .int n] st = .ok (.bl (twoD n d)) st := okF_eq (by
  unfold f_two_rows b_two_rows
  cases d <;> simp [isi h, isTup, twoD]
  rename_i xs
  obtain ⟨hl, hx⟩ := tup_len h
  match xs with
  | [a, b] =>
    have ha := okDs_mem hx a (by simp)
    have hb := okDs_mem hx b (by simp)
    simp [ixD, okD_tmp ha, okD_tmp hb, numbers_eq ha, numbers_eq hb]
    cases nums n n a <;> simp
  | [] => simp
  | [a] => simp
  | a :: b :: c :: r => 
    simp
    omega)
def kindD (k : Str) (d : D) : Bool :=
  if k = "name" then nameD d else if k = "manner" then mannerD d else if k = "number" then shortD d else if k = "most" then mostD d else if k = "terms" then nums 1 100 d
  else if k = "round" then nums 1 20 d else if k = "steps" then stepsD d else if k = "four" then twoD 2 d else if k = "eight" then twoD 4 d else false
theorem tf_name : tab_FITS.lookup ("name" : Str) = some (.gl "is_name") := by rfl
theorem ff_name : ftab.lookup ("is_name" : Str) = some f_is_name := by rfl
theorem kd_name {d : D} : kindD "name" d = (nameD d) := by rfl
theorem tf_manner : tab_FITS.lookup ("manner" : Str) = some (.gl "is_manner") := by rfl
theorem ff_manner : ftab.lookup ("is_manner" : Str) = some f_is_manner := by rfl
theorem kd_manner {d : D} : kindD "manner" d = (mannerD d) := by rfl
theorem tf_number : tab_FITS.lookup ("number" : Str) = some (.gl "is_short") := by rfl
theorem ff_number : ftab.lookup ("is_short" : Str) = some f_is_short := by rfl
theorem kd_number {d : D} : kindD "number" d = (shortD d) := by rfl
theorem tf_most : tab_FITS.lookup ("most" : Str) = some (.gl "is_most") := by rfl
theorem ff_most : ftab.lookup ("is_most" : Str) = some f_is_most := by rfl
theorem kd_most {d : D} : kindD "most" d = (mostD d) := by rfl
theorem tf_terms : tab_FITS.lookup ("terms" : Str) = some (.gl "are_terms") := by rfl
theorem ff_terms : ftab.lookup ("are_terms" : Str) = some f_are_terms := by rfl
theorem kd_terms {d : D} : kindD "terms" d = (nums 1 100 d) := by rfl
theorem tf_round : tab_FITS.lookup ("round" : Str) = some (.gl "is_round") := by rfl
theorem ff_round : ftab.lookup ("is_round" : Str) = some f_is_round := by rfl
theorem kd_round {d : D} : kindD "round" d = (nums 1 20 d) := by rfl
theorem tf_steps : tab_FITS.lookup ("steps" : Str) = some (.gl "are_steps") := by rfl
theorem ff_steps : ftab.lookup ("are_steps" : Str) = some f_are_steps := by rfl
theorem kd_steps {d : D} : kindD "steps" d = (stepsD d) := by rfl
theorem tf_four : tab_FITS.lookup ("four" : Str) = some (.gl "are_four") := by rfl
theorem ff_four : ftab.lookup ("are_four" : Str) = some f_are_four := by rfl
theorem kd_four {d : D} : kindD "four" d = (twoD 2 d) := by rfl
theorem tf_eight : tab_FITS.lookup ("eight" : Str) = some (.gl "are_eight") := by rfl
theorem ff_eight : ftab.lookup ("are_eight" : Str) = some f_are_eight := by rfl
theorem kd_eight {d : D} : kindD "eight" d = (twoD 4 d) := by rfl
theorem fits_eq {k : Str} {d : D} {st : List MO} (hk : k ∈ (["name", "manner", "number", "most", "terms", "round", "steps", "four", "eight"] : List Str)) (h : okD d = true) : f_fits [.str k, d] st = .ok (.bl (kindD k d)) st := okF_eq (by
  have ht := okD_tmp h
  unfold f_fits b_fits
  simp only [List.mem_cons, List.not_mem_nil, or_false] at hk
  rcases hk with rfl | rfl | rfl | rfl | rfl | rfl | rfl | rfl | rfl
  · simp [tf_name, ff_name, kd_name, is_name_eq h, ht]
  · simp [tf_manner, ff_manner, kd_manner, is_manner_eq h, ht]
  · simp [tf_number, ff_number, kd_number, is_short_eq h, ht]
  · simp [tf_most, ff_most, kd_most, is_most_eq h, ht]
  · simp [tf_terms, ff_terms, kd_terms, are_terms_eq h, ht]
  · simp [tf_round, ff_round, kd_round, is_round_eq h, ht]
  · simp [tf_steps, ff_steps, kd_steps, are_steps_eq h, ht]
  · simp [tf_four, ff_four, kd_four, are_four_eq h, ht]
  · simp [tf_eight, ff_eight, kd_eight, are_eight_eq h, ht])
theorem ts_row : tab_SHAPES.lookup ("row" : Str) = some (.tup [.str "name", .str "manner", .str "terms"]) := by rfl
theorem ts_ruled : tab_SHAPES.lookup ("ruled" : Str) = some (.tup [.str "name", .str "manner", .str "terms", .str "round", .str "steps"]) := by rfl
theorem ts_fed : tab_SHAPES.lookup ("fed" : Str) = some (.tup [.str "name", .str "manner"]) := by rfl
theorem ts_surd : tab_SHAPES.lookup ("surd" : Str) = some (.tup [.str "name", .str "number", .str "number", .str "number"]) := by rfl
theorem ts_one : tab_SHAPES.lookup ("one" : Str) = some (.tup [.str "name", .str "name", .str "manner", .str "most", .str "four"]) := by rfl
theorem ts_two : tab_SHAPES.lookup ("two" : Str) = some (.tup [.str "name", .str "name", .str "name", .str "manner", .str "most", .str "eight"]) := by rfl
theorem ts_root : tab_SHAPES.lookup ("root" : Str) = some (.tup [.str "name", .str "name", .str "most"]) := by rfl
/-- what a row holds behind its kind -/
def rowD (k : Str) (r : List D) : Bool :=
  if k = "row" then (match r with | [a, b, c] => nameD a && mannerD b && nums 1 100 c | _ => false)
  else if k = "ruled" then (match r with | [a, b, c, d, e] => nameD a && mannerD b && nums 1 100 c && nums 1 20 d && stepsD e | _ => false)
  else if k = "fed" then (match r with | [a, b] => nameD a && mannerD b | _ => false)
  else if k = "surd" then (match r with | [a, b, c, d] => nameD a && shortD b && shortD c && shortD d | _ => false)
  else if k = "one" then (match r with | [a, b, c, d, e] => nameD a && nameD b && mannerD c && mostD d && twoD 2 e | _ => false)
  else if k = "two" then (match r with | [a, b, c, d, e, f] => nameD a && nameD b && nameD c && mannerD d && mostD e && twoD 4 f | _ => false)
  else if k = "root" then (match r with | [a, b, c] => nameD a && nameD b && mostD c | _ => false)
  else false
def rowOk : D → Bool
  | .tup (.str k :: r) => rowD k r
  | _ => false
theorem rd_row {r : List D} : rowD "row" r = (match r with | [a, b, c] => nameD a && mannerD b && nums 1 100 c | _ => false) := by rfl
theorem rd_ruled {r : List D} : rowD "ruled" r = (match r with | [a, b, c, d, e] => nameD a && mannerD b && nums 1 100 c && nums 1 20 d && stepsD e | _ => false) := by rfl
theorem rd_fed {r : List D} : rowD "fed" r = (match r with | [a, b] => nameD a && mannerD b | _ => false) := by rfl
theorem rd_surd {r : List D} : rowD "surd" r = (match r with | [a, b, c, d] => nameD a && shortD b && shortD c && shortD d | _ => false) := by rfl
theorem rd_one {r : List D} : rowD "one" r = (match r with | [a, b, c, d, e] => nameD a && nameD b && mannerD c && mostD d && twoD 2 e | _ => false) := by rfl
theorem rd_two {r : List D} : rowD "two" r = (match r with | [a, b, c, d, e, f] => nameD a && nameD b && nameD c && mannerD d && mostD e && twoD 4 f | _ => false) := by rfl
theorem rd_root {r : List D} : rowD "root" r = (match r with | [a, b, c] => nameD a && nameD b && mostD c | _ => false) := by rfl
def fitD : D → Bool
  | .tup [.str k, d] => kindD k d
  | _ => false
theorem cut1 {α : Type} (x : α) (xs : List α) : cutD (x :: xs) (some 1) none = xs := by
  simp [cutD, slE]
theorem is_plan_row_eq {d : D} {st : List MO} (h : okD d = true) : f_is_plan_row [d] st = .ok (.bl (rowOk d)) st := okF_eq (by
  unfold f_is_plan_row b_is_plan_row
  cases d <;> simp [isi h, isTup, rowOk]
  rename_i xs
  obtain ⟨hl, hx⟩ := tup_len h
  match xs with
  | [] => simp
  | a :: r =>
    have ha := okDs_mem hx a (by simp)
    simp [ixD, okD_tmp ha, isi ha]
    cases a <;> simp [isStr]
    rename_i k
    by_cases h_row : k = "row"
    · subst h_row
      simp [ts_row, rd_row]
      match r with
      | [] => simp
      | [a] => simp
      | [a, b] => simp
      | a :: b :: c :: z :: t =>
        simp
        omega
      | [a, b, c] =>
        have ha := okDs_mem hx a (by simp)
        have hb := okDs_mem hx b (by simp)
        have hc := okDs_mem hx c (by simp)
        simp
        refine fComp_pure (fun _ => true) (fun x => .bl (fitD x)) ?_
        simp [wipeL, restL, keepV, cut1, fitD, okD_tmp ha, okD_tmp hb, okD_tmp hc, fits_eq (k := "name") (by simp) ha, fits_eq (k := "manner") (by simp) hb, fits_eq (k := "terms") (by simp) hc]
        simp [kd_name, kd_manner, kd_terms, Bool.and_assoc]
    by_cases h_ruled : k = "ruled"
    · subst h_ruled
      simp [ts_ruled, rd_ruled]
      match r with
      | [] => simp
      | [a] => simp
      | [a, b] => simp
      | [a, b, c] => simp
      | [a, b, c, d] => simp
      | a :: b :: c :: d :: e :: z :: t =>
        simp
        omega
      | [a, b, c, d, e] =>
        have ha := okDs_mem hx a (by simp)
        have hb := okDs_mem hx b (by simp)
        have hc := okDs_mem hx c (by simp)
        have hd := okDs_mem hx d (by simp)
        have he := okDs_mem hx e (by simp)
        simp
        refine fComp_pure (fun _ => true) (fun x => .bl (fitD x)) ?_
        simp [wipeL, restL, keepV, cut1, fitD, okD_tmp ha, okD_tmp hb, okD_tmp hc, okD_tmp hd, okD_tmp he, fits_eq (k := "name") (by simp) ha, fits_eq (k := "manner") (by simp) hb, fits_eq (k := "terms") (by simp) hc, fits_eq (k := "round") (by simp) hd, fits_eq (k := "steps") (by simp) he]
        simp [kd_name, kd_manner, kd_terms, kd_round, kd_steps, Bool.and_assoc]
    by_cases h_fed : k = "fed"
    · subst h_fed
      simp [ts_fed, rd_fed]
      match r with
      | [] => simp
      | [a] => simp
      | a :: b :: z :: t =>
        simp
        omega
      | [a, b] =>
        have ha := okDs_mem hx a (by simp)
        have hb := okDs_mem hx b (by simp)
        simp
        refine fComp_pure (fun _ => true) (fun x => .bl (fitD x)) ?_
        simp [wipeL, restL, keepV, cut1, fitD, okD_tmp ha, okD_tmp hb, fits_eq (k := "name") (by simp) ha, fits_eq (k := "manner") (by simp) hb]
        simp [kd_name, kd_manner, Bool.and_assoc]
    by_cases h_surd : k = "surd"
    · subst h_surd
      simp [ts_surd, rd_surd]
      match r with
      | [] => simp
      | [a] => simp
      | [a, b] => simp
      | [a, b, c] => simp
      | a :: b :: c :: d :: z :: t =>
        simp
        omega
      | [a, b, c, d] =>
        have ha := okDs_mem hx a (by simp)
        have hb := okDs_mem hx b (by simp)
        have hc := okDs_mem hx c (by simp)
        have hd := okDs_mem hx d (by simp)
        simp
        refine fComp_pure (fun _ => true) (fun x => .bl (fitD x)) ?_
        simp [wipeL, restL, keepV, cut1, fitD, okD_tmp ha, okD_tmp hb, okD_tmp hc, okD_tmp hd, fits_eq (k := "name") (by simp) ha, fits_eq (k := "number") (by simp) hb, fits_eq (k := "number") (by simp) hc, fits_eq (k := "number") (by simp) hd]
        simp [kd_name, kd_number, Bool.and_assoc]
    by_cases h_one : k = "one"
    · subst h_one
      simp [ts_one, rd_one]
      match r with
      | [] => simp
      | [a] => simp
      | [a, b] => simp
      | [a, b, c] => simp
      | [a, b, c, d] => simp
      | a :: b :: c :: d :: e :: z :: t =>
        simp
        omega
      | [a, b, c, d, e] =>
        have ha := okDs_mem hx a (by simp)
        have hb := okDs_mem hx b (by simp)
        have hc := okDs_mem hx c (by simp)
        have hd := okDs_mem hx d (by simp)
        have he := okDs_mem hx e (by simp)
        simp
        refine fComp_pure (fun _ => true) (fun x => .bl (fitD x)) ?_
        simp [wipeL, restL, keepV, cut1, fitD, okD_tmp ha, okD_tmp hb, okD_tmp hc, okD_tmp hd, okD_tmp he, fits_eq (k := "name") (by simp) ha, fits_eq (k := "name") (by simp) hb, fits_eq (k := "manner") (by simp) hc, fits_eq (k := "most") (by simp) hd, fits_eq (k := "four") (by simp) he]
        simp [kd_name, kd_manner, kd_most, kd_four, Bool.and_assoc]
    by_cases h_two : k = "two"
    · subst h_two
      simp [ts_two, rd_two]
      match r with
      | [] => simp
      | [a] => simp
      | [a, b] => simp
      | [a, b, c] => simp
      | [a, b, c, d] => simp
      | [a, b, c, d, e] => simp
      | a :: b :: c :: d :: e :: f :: z :: t =>
        simp
        omega
      | [a, b, c, d, e, f] =>
        have ha := okDs_mem hx a (by simp)
        have hb := okDs_mem hx b (by simp)
        have hc := okDs_mem hx c (by simp)
        have hd := okDs_mem hx d (by simp)
        have he := okDs_mem hx e (by simp)
        have hf := okDs_mem hx f (by simp)
        simp
        refine fComp_pure (fun _ => true) (fun x => .bl (fitD x)) ?_
        simp [wipeL, restL, keepV, cut1, fitD, okD_tmp ha, okD_tmp hb, okD_tmp hc, okD_tmp hd, okD_tmp he, okD_tmp hf, fits_eq (k := "name") (by simp) ha, fits_eq (k := "name") (by simp) hb, fits_eq (k := "name") (by simp) hc, fits_eq (k := "manner") (by simp) hd, fits_eq (k := "most") (by simp) he, fits_eq (k := "eight") (by simp) hf]
        simp [kd_name, kd_manner, kd_most, kd_eight, Bool.and_assoc]
    by_cases h_root : k = "root"
    · subst h_root
      simp [ts_root, rd_root]
      match r with
      | [] => simp
      | [a] => simp
      | [a, b] => simp
      | a :: b :: c :: z :: t =>
        simp
        omega
      | [a, b, c] =>
        have ha := okDs_mem hx a (by simp)
        have hb := okDs_mem hx b (by simp)
        have hc := okDs_mem hx c (by simp)
        simp
        refine fComp_pure (fun _ => true) (fun x => .bl (fitD x)) ?_
        simp [wipeL, restL, keepV, cut1, fitD, okD_tmp ha, okD_tmp hb, okD_tmp hc, fits_eq (k := "name") (by simp) ha, fits_eq (k := "name") (by simp) hb, fits_eq (k := "most") (by simp) hc]
        simp [kd_name, kd_most, Bool.and_assoc]
    have hn : tab_SHAPES.lookup k = none := by
      unfold tab_SHAPES
      simp [List.lookup_cons, beq_eq_false_iff_ne.mpr h_row, beq_eq_false_iff_ne.mpr h_ruled, beq_eq_false_iff_ne.mpr h_fed, beq_eq_false_iff_ne.mpr h_surd, beq_eq_false_iff_ne.mpr h_one, beq_eq_false_iff_ne.mpr h_two, beq_eq_false_iff_ne.mpr h_root]
    simp [hn, rowD, h_row, h_ruled, h_fed, h_surd, h_one, h_two, h_root])
end G_k74

set_option Elab.async false
set_option linter.all false
set_option maxRecDepth 100000
set_option maxHeartbeats 4000000
set_option exponentiation.threshold 20000
namespace G_k74
open FL PySem L2
def sizesK : List Ky := (["row", "ruled", "fed", "surd", "one", "two", "root"] : List Str).map Sum.inr
def sizesV : List D := [.int 4, .int 6, .int 3, .int 5, .int 6, .int 7, .int 4]
theorem lk_row : lookD [Sum.inr "row", Sum.inr "ruled", Sum.inr "fed", Sum.inr "surd", Sum.inr "one", Sum.inr "two", Sum.inr "root"] [D.int 4, .int 6, .int 3, .int 5, .int 6, .int 7, .int 4] (Sum.inr ("row" : Str)) = some (.int 4) := by rfl
theorem lk_ruled : lookD [Sum.inr "row", Sum.inr "ruled", Sum.inr "fed", Sum.inr "surd", Sum.inr "one", Sum.inr "two", Sum.inr "root"] [D.int 4, .int 6, .int 3, .int 5, .int 6, .int 7, .int 4] (Sum.inr ("ruled" : Str)) = some (.int 6) := by rfl
theorem lk_fed : lookD [Sum.inr "row", Sum.inr "ruled", Sum.inr "fed", Sum.inr "surd", Sum.inr "one", Sum.inr "two", Sum.inr "root"] [D.int 4, .int 6, .int 3, .int 5, .int 6, .int 7, .int 4] (Sum.inr ("fed" : Str)) = some (.int 3) := by rfl
theorem lk_surd : lookD [Sum.inr "row", Sum.inr "ruled", Sum.inr "fed", Sum.inr "surd", Sum.inr "one", Sum.inr "two", Sum.inr "root"] [D.int 4, .int 6, .int 3, .int 5, .int 6, .int 7, .int 4] (Sum.inr ("surd" : Str)) = some (.int 5) := by rfl
theorem lk_one : lookD [Sum.inr "row", Sum.inr "ruled", Sum.inr "fed", Sum.inr "surd", Sum.inr "one", Sum.inr "two", Sum.inr "root"] [D.int 4, .int 6, .int 3, .int 5, .int 6, .int 7, .int 4] (Sum.inr ("one" : Str)) = some (.int 6) := by rfl
theorem lk_two : lookD [Sum.inr "row", Sum.inr "ruled", Sum.inr "fed", Sum.inr "surd", Sum.inr "one", Sum.inr "two", Sum.inr "root"] [D.int 4, .int 6, .int 3, .int 5, .int 6, .int 7, .int 4] (Sum.inr ("two" : Str)) = some (.int 7) := by rfl
theorem lk_root : lookD [Sum.inr "row", Sum.inr "ruled", Sum.inr "fed", Sum.inr "surd", Sum.inr "one", Sum.inr "two", Sum.inr "root"] [D.int 4, .int 6, .int 3, .int 5, .int 6, .int 7, .int 4] (Sum.inr ("root" : Str)) = some (.int 4) := by rfl
theorem ne_row_ruled : (("row" : Str) == "ruled") = false := by rfl
theorem ne_row_fed : (("row" : Str) == "fed") = false := by rfl
theorem ne_row_surd : (("row" : Str) == "surd") = false := by rfl
theorem ne_row_one : (("row" : Str) == "one") = false := by rfl
theorem ne_row_two : (("row" : Str) == "two") = false := by rfl
theorem ne_row_root : (("row" : Str) == "root") = false := by rfl
theorem ne_ruled_row : (("ruled" : Str) == "row") = false := by rfl
theorem ne_ruled_fed : (("ruled" : Str) == "fed") = false := by rfl
theorem ne_ruled_surd : (("ruled" : Str) == "surd") = false := by rfl
theorem ne_ruled_one : (("ruled" : Str) == "one") = false := by rfl
theorem ne_ruled_two : (("ruled" : Str) == "two") = false := by rfl
theorem ne_ruled_root : (("ruled" : Str) == "root") = false := by rfl
theorem ne_fed_row : (("fed" : Str) == "row") = false := by rfl
theorem ne_fed_ruled : (("fed" : Str) == "ruled") = false := by rfl
theorem ne_fed_surd : (("fed" : Str) == "surd") = false := by rfl
theorem ne_fed_one : (("fed" : Str) == "one") = false := by rfl
theorem ne_fed_two : (("fed" : Str) == "two") = false := by rfl
theorem ne_fed_root : (("fed" : Str) == "root") = false := by rfl
theorem ne_surd_row : (("surd" : Str) == "row") = false := by rfl
theorem ne_surd_ruled : (("surd" : Str) == "ruled") = false := by rfl
theorem ne_surd_fed : (("surd" : Str) == "fed") = false := by rfl
theorem ne_surd_one : (("surd" : Str) == "one") = false := by rfl
theorem ne_surd_two : (("surd" : Str) == "two") = false := by rfl
theorem ne_surd_root : (("surd" : Str) == "root") = false := by rfl
theorem ne_one_row : (("one" : Str) == "row") = false := by rfl
theorem ne_one_ruled : (("one" : Str) == "ruled") = false := by rfl
theorem ne_one_fed : (("one" : Str) == "fed") = false := by rfl
theorem ne_one_surd : (("one" : Str) == "surd") = false := by rfl
theorem ne_one_two : (("one" : Str) == "two") = false := by rfl
theorem ne_one_root : (("one" : Str) == "root") = false := by rfl
theorem ne_two_row : (("two" : Str) == "row") = false := by rfl
theorem ne_two_ruled : (("two" : Str) == "ruled") = false := by rfl
theorem ne_two_fed : (("two" : Str) == "fed") = false := by rfl
theorem ne_two_surd : (("two" : Str) == "surd") = false := by rfl
theorem ne_two_one : (("two" : Str) == "one") = false := by rfl
theorem ne_two_root : (("two" : Str) == "root") = false := by rfl
theorem ne_root_row : (("root" : Str) == "row") = false := by rfl
theorem ne_root_ruled : (("root" : Str) == "ruled") = false := by rfl
theorem ne_root_fed : (("root" : Str) == "fed") = false := by rfl
theorem ne_root_surd : (("root" : Str) == "surd") = false := by rfl
theorem ne_root_one : (("root" : Str) == "one") = false := by rfl
theorem ne_root_two : (("root" : Str) == "two") = false := by rfl
theorem nq_row_ruled : ¬(("row" : Str) = "ruled") := by decide
theorem nq_row_fed : ¬(("row" : Str) = "fed") := by decide
theorem nq_row_surd : ¬(("row" : Str) = "surd") := by decide
theorem nq_row_one : ¬(("row" : Str) = "one") := by decide
theorem nq_row_two : ¬(("row" : Str) = "two") := by decide
theorem nq_row_root : ¬(("row" : Str) = "root") := by decide
theorem nq_ruled_row : ¬(("ruled" : Str) = "row") := by decide
theorem nq_ruled_fed : ¬(("ruled" : Str) = "fed") := by decide
theorem nq_ruled_surd : ¬(("ruled" : Str) = "surd") := by decide
theorem nq_ruled_one : ¬(("ruled" : Str) = "one") := by decide
theorem nq_ruled_two : ¬(("ruled" : Str) = "two") := by decide
theorem nq_ruled_root : ¬(("ruled" : Str) = "root") := by decide
theorem nq_fed_row : ¬(("fed" : Str) = "row") := by decide
theorem nq_fed_ruled : ¬(("fed" : Str) = "ruled") := by decide
theorem nq_fed_surd : ¬(("fed" : Str) = "surd") := by decide
theorem nq_fed_one : ¬(("fed" : Str) = "one") := by decide
theorem nq_fed_two : ¬(("fed" : Str) = "two") := by decide
theorem nq_fed_root : ¬(("fed" : Str) = "root") := by decide
theorem nq_surd_row : ¬(("surd" : Str) = "row") := by decide
theorem nq_surd_ruled : ¬(("surd" : Str) = "ruled") := by decide
theorem nq_surd_fed : ¬(("surd" : Str) = "fed") := by decide
theorem nq_surd_one : ¬(("surd" : Str) = "one") := by decide
theorem nq_surd_two : ¬(("surd" : Str) = "two") := by decide
theorem nq_surd_root : ¬(("surd" : Str) = "root") := by decide
theorem nq_one_row : ¬(("one" : Str) = "row") := by decide
theorem nq_one_ruled : ¬(("one" : Str) = "ruled") := by decide
theorem nq_one_fed : ¬(("one" : Str) = "fed") := by decide
theorem nq_one_surd : ¬(("one" : Str) = "surd") := by decide
theorem nq_one_two : ¬(("one" : Str) = "two") := by decide
theorem nq_one_root : ¬(("one" : Str) = "root") := by decide
theorem nq_two_row : ¬(("two" : Str) = "row") := by decide
theorem nq_two_ruled : ¬(("two" : Str) = "ruled") := by decide
theorem nq_two_fed : ¬(("two" : Str) = "fed") := by decide
theorem nq_two_surd : ¬(("two" : Str) = "surd") := by decide
theorem nq_two_one : ¬(("two" : Str) = "one") := by decide
theorem nq_two_root : ¬(("two" : Str) = "root") := by decide
theorem nq_root_row : ¬(("root" : Str) = "row") := by decide
theorem nq_root_ruled : ¬(("root" : Str) = "ruled") := by decide
theorem nq_root_fed : ¬(("root" : Str) = "fed") := by decide
theorem nq_root_surd : ¬(("root" : Str) = "surd") := by decide
theorem nq_root_one : ¬(("root" : Str) = "one") := by decide
theorem nq_root_two : ¬(("root" : Str) = "two") := by decide
theorem row_good_eq {d : D} {st : List MO} (h : okD d = true) : f_row_good [d] st = .ok (.bl (rowOk d)) st := okF_eq (by
  unfold f_row_good b_row_good
  cases d <;> simp [isi h, isTup, rowOk]
  rename_i xs
  obtain ⟨hl, hx⟩ := tup_len h
  match xs with
  | [] => simp
  | a :: r =>
    have ha := okDs_mem hx a (by simp)
    simp [ixD, okD_tmp ha, isi ha]
    cases a <;> simp [isStr]
    rename_i k
    by_cases h_row : k = "row"
    · subst h_row
      simp [lk_row, rd_row]
      match r with
      | [] => simp
      | [a] => simp
      | [a, b] => simp
      | a :: b :: c :: z :: t =>
        simp
        omega
      | [a, b, c] =>
        have ha := okDs_mem hx a (by simp)
        have hb := okDs_mem hx b (by simp)
        have hc := okDs_mem hx c (by simp)
        simp [ixD, cutD, slE, okD_tmp ha, okD_tmp hb, okD_tmp hc, called_eq ha, word_eq ha, numbers_eq ha, most_eq ha, two_rows_eq ha, called_eq hb, word_eq hb, numbers_eq hb, most_eq hb, two_rows_eq hb, called_eq hc, word_eq hc, numbers_eq hc, most_eq hc, two_rows_eq hc, ne_row_ruled, ne_row_fed, ne_row_surd, ne_row_one, ne_row_two, ne_row_root, ne_ruled_row, ne_ruled_fed, ne_ruled_surd, ne_ruled_one, ne_ruled_two, ne_ruled_root, ne_fed_row, ne_fed_ruled, ne_fed_surd, ne_fed_one, ne_fed_two, ne_fed_root, ne_surd_row, ne_surd_ruled, ne_surd_fed, ne_surd_one, ne_surd_two, ne_surd_root, ne_one_row, ne_one_ruled, ne_one_fed, ne_one_surd, ne_one_two, ne_one_root, ne_two_row, ne_two_ruled, ne_two_fed, ne_two_surd, ne_two_one, ne_two_root, ne_root_row, ne_root_ruled, ne_root_fed, ne_root_surd, ne_root_one, ne_root_two, nq_row_ruled, nq_row_fed, nq_row_surd, nq_row_one, nq_row_two, nq_row_root, flatD, eqF]
        cases nameD a <;> cases mannerD b <;> cases nums 1 100 c <;> simp
    by_cases h_ruled : k = "ruled"
    · subst h_ruled
      simp [lk_ruled, rd_ruled]
      match r with
      | [] => simp
      | [a] => simp
      | [a, b] => simp
      | [a, b, c] => simp
      | [a, b, c, d] => simp
      | a :: b :: c :: d :: e :: z :: t =>
        simp
        omega
      | [a, b, c, d, e] =>
        have ha := okDs_mem hx a (by simp)
        have hb := okDs_mem hx b (by simp)
        have hc := okDs_mem hx c (by simp)
        have hd := okDs_mem hx d (by simp)
        have he := okDs_mem hx e (by simp)
        simp [ixD, cutD, slE, okD_tmp ha, okD_tmp hb, okD_tmp hc, okD_tmp hd, okD_tmp he, called_eq ha, word_eq ha, numbers_eq ha, most_eq ha, two_rows_eq ha, called_eq hb, word_eq hb, numbers_eq hb, most_eq hb, two_rows_eq hb, called_eq hc, word_eq hc, numbers_eq hc, most_eq hc, two_rows_eq hc, called_eq hd, word_eq hd, numbers_eq hd, most_eq hd, two_rows_eq hd, called_eq he, word_eq he, numbers_eq he, most_eq he, two_rows_eq he, ne_row_ruled, ne_row_fed, ne_row_surd, ne_row_one, ne_row_two, ne_row_root, ne_ruled_row, ne_ruled_fed, ne_ruled_surd, ne_ruled_one, ne_ruled_two, ne_ruled_root, ne_fed_row, ne_fed_ruled, ne_fed_surd, ne_fed_one, ne_fed_two, ne_fed_root, ne_surd_row, ne_surd_ruled, ne_surd_fed, ne_surd_one, ne_surd_two, ne_surd_root, ne_one_row, ne_one_ruled, ne_one_fed, ne_one_surd, ne_one_two, ne_one_root, ne_two_row, ne_two_ruled, ne_two_fed, ne_two_surd, ne_two_one, ne_two_root, ne_root_row, ne_root_ruled, ne_root_fed, ne_root_surd, ne_root_one, ne_root_two, nq_ruled_row, nq_ruled_fed, nq_ruled_surd, nq_ruled_one, nq_ruled_two, nq_ruled_root, okO_isNon he, flatD, eqF]
        unfold stepsD
        cases nameD a <;> cases mannerD b <;> cases nums 1 100 c <;> cases nums 1 20 d <;> cases isNonD e <;> simp
    by_cases h_fed : k = "fed"
    · subst h_fed
      simp [lk_fed, rd_fed]
      match r with
      | [] => simp
      | [a] => simp
      | a :: b :: z :: t =>
        simp
        omega
      | [a, b] =>
        have ha := okDs_mem hx a (by simp)
        have hb := okDs_mem hx b (by simp)
        simp [ixD, cutD, slE, okD_tmp ha, okD_tmp hb, called_eq ha, word_eq ha, numbers_eq ha, most_eq ha, two_rows_eq ha, called_eq hb, word_eq hb, numbers_eq hb, most_eq hb, two_rows_eq hb, ne_row_ruled, ne_row_fed, ne_row_surd, ne_row_one, ne_row_two, ne_row_root, ne_ruled_row, ne_ruled_fed, ne_ruled_surd, ne_ruled_one, ne_ruled_two, ne_ruled_root, ne_fed_row, ne_fed_ruled, ne_fed_surd, ne_fed_one, ne_fed_two, ne_fed_root, ne_surd_row, ne_surd_ruled, ne_surd_fed, ne_surd_one, ne_surd_two, ne_surd_root, ne_one_row, ne_one_ruled, ne_one_fed, ne_one_surd, ne_one_two, ne_one_root, ne_two_row, ne_two_ruled, ne_two_fed, ne_two_surd, ne_two_one, ne_two_root, ne_root_row, ne_root_ruled, ne_root_fed, ne_root_surd, ne_root_one, ne_root_two, nq_fed_row, nq_fed_ruled, nq_fed_surd, nq_fed_one, nq_fed_two, nq_fed_root, flatD, eqF]
        cases nameD a <;> cases mannerD b <;> simp
    by_cases h_surd : k = "surd"
    · subst h_surd
      simp [lk_surd, rd_surd]
      match r with
      | [] => simp
      | [a] => simp
      | [a, b] => simp
      | [a, b, c] => simp
      | a :: b :: c :: d :: z :: t =>
        simp
        omega
      | [a, b, c, d] =>
        have ha := okDs_mem hx a (by simp)
        have hb := okDs_mem hx b (by simp)
        have hc := okDs_mem hx c (by simp)
        have hd := okDs_mem hx d (by simp)
        simp [ixD, cutD, slE, okD_tmp ha, okD_tmp hb, okD_tmp hc, okD_tmp hd, called_eq ha, word_eq ha, numbers_eq ha, most_eq ha, two_rows_eq ha, called_eq hb, word_eq hb, numbers_eq hb, most_eq hb, two_rows_eq hb, called_eq hc, word_eq hc, numbers_eq hc, most_eq hc, two_rows_eq hc, called_eq hd, word_eq hd, numbers_eq hd, most_eq hd, two_rows_eq hd, ne_row_ruled, ne_row_fed, ne_row_surd, ne_row_one, ne_row_two, ne_row_root, ne_ruled_row, ne_ruled_fed, ne_ruled_surd, ne_ruled_one, ne_ruled_two, ne_ruled_root, ne_fed_row, ne_fed_ruled, ne_fed_surd, ne_fed_one, ne_fed_two, ne_fed_root, ne_surd_row, ne_surd_ruled, ne_surd_fed, ne_surd_one, ne_surd_two, ne_surd_root, ne_one_row, ne_one_ruled, ne_one_fed, ne_one_surd, ne_one_two, ne_one_root, ne_two_row, ne_two_ruled, ne_two_fed, ne_two_surd, ne_two_one, ne_two_root, ne_root_row, ne_root_ruled, ne_root_fed, ne_root_surd, ne_root_one, ne_root_two, nq_surd_row, nq_surd_ruled, nq_surd_fed, nq_surd_one, nq_surd_two, nq_surd_root, numbers_eq (show okD (.tup [b, c, d]) = true by simp [okD, okDs, hb, hc, hd]), nums, flatD, eqF]
        cases nameD a <;> cases shortD b <;> cases shortD c <;> cases shortD d <;> simp
    by_cases h_one : k = "one"
    · subst h_one
      simp [lk_one, rd_one]
      match r with
      | [] => simp
      | [a] => simp
      | [a, b] => simp
      | [a, b, c] => simp
      | [a, b, c, d] => simp
      | a :: b :: c :: d :: e :: z :: t =>
        simp
        omega
      | [a, b, c, d, e] =>
        have ha := okDs_mem hx a (by simp)
        have hb := okDs_mem hx b (by simp)
        have hc := okDs_mem hx c (by simp)
        have hd := okDs_mem hx d (by simp)
        have he := okDs_mem hx e (by simp)
        simp [ixD, cutD, slE, okD_tmp ha, okD_tmp hb, okD_tmp hc, okD_tmp hd, okD_tmp he, called_eq ha, word_eq ha, numbers_eq ha, most_eq ha, two_rows_eq ha, called_eq hb, word_eq hb, numbers_eq hb, most_eq hb, two_rows_eq hb, called_eq hc, word_eq hc, numbers_eq hc, most_eq hc, two_rows_eq hc, called_eq hd, word_eq hd, numbers_eq hd, most_eq hd, two_rows_eq hd, called_eq he, word_eq he, numbers_eq he, most_eq he, two_rows_eq he, ne_row_ruled, ne_row_fed, ne_row_surd, ne_row_one, ne_row_two, ne_row_root, ne_ruled_row, ne_ruled_fed, ne_ruled_surd, ne_ruled_one, ne_ruled_two, ne_ruled_root, ne_fed_row, ne_fed_ruled, ne_fed_surd, ne_fed_one, ne_fed_two, ne_fed_root, ne_surd_row, ne_surd_ruled, ne_surd_fed, ne_surd_one, ne_surd_two, ne_surd_root, ne_one_row, ne_one_ruled, ne_one_fed, ne_one_surd, ne_one_two, ne_one_root, ne_two_row, ne_two_ruled, ne_two_fed, ne_two_surd, ne_two_one, ne_two_root, ne_root_row, ne_root_ruled, ne_root_fed, ne_root_surd, ne_root_one, ne_root_two, nq_one_row, nq_one_ruled, nq_one_fed, nq_one_surd, nq_one_two, nq_one_root, flatD, eqF]
        cases hA : nameD a
        · simp
        simp
        refine fComp_pure (fun x => !nameD x) (fun x => x) ?_
        have s2 : small 2 = true := sm (by decide)
        simp [wipeL, restL, keepV, cutD, slE, ixD, okD_tmp hb, called_eq hb, okD_tmp hc, word_eq hc, okD_tmp hd, most_eq hd, okD_tmp he, two_rows_eq he, s2]
        cases nameD b <;> cases mannerD c <;> cases mostD d <;> cases twoD 2 e <;> simp
    by_cases h_two : k = "two"
    · subst h_two
      simp [lk_two, rd_two]
      match r with
      | [] => simp
      | [a] => simp
      | [a, b] => simp
      | [a, b, c] => simp
      | [a, b, c, d] => simp
      | [a, b, c, d, e] => simp
      | a :: b :: c :: d :: e :: f :: z :: t =>
        simp
        omega
      | [a, b, c, d, e, f] =>
        have ha := okDs_mem hx a (by simp)
        have hb := okDs_mem hx b (by simp)
        have hc := okDs_mem hx c (by simp)
        have hd := okDs_mem hx d (by simp)
        have he := okDs_mem hx e (by simp)
        have hf := okDs_mem hx f (by simp)
        simp [ixD, cutD, slE, okD_tmp ha, okD_tmp hb, okD_tmp hc, okD_tmp hd, okD_tmp he, okD_tmp hf, called_eq ha, word_eq ha, numbers_eq ha, most_eq ha, two_rows_eq ha, called_eq hb, word_eq hb, numbers_eq hb, most_eq hb, two_rows_eq hb, called_eq hc, word_eq hc, numbers_eq hc, most_eq hc, two_rows_eq hc, called_eq hd, word_eq hd, numbers_eq hd, most_eq hd, two_rows_eq hd, called_eq he, word_eq he, numbers_eq he, most_eq he, two_rows_eq he, called_eq hf, word_eq hf, numbers_eq hf, most_eq hf, two_rows_eq hf, ne_row_ruled, ne_row_fed, ne_row_surd, ne_row_one, ne_row_two, ne_row_root, ne_ruled_row, ne_ruled_fed, ne_ruled_surd, ne_ruled_one, ne_ruled_two, ne_ruled_root, ne_fed_row, ne_fed_ruled, ne_fed_surd, ne_fed_one, ne_fed_two, ne_fed_root, ne_surd_row, ne_surd_ruled, ne_surd_fed, ne_surd_one, ne_surd_two, ne_surd_root, ne_one_row, ne_one_ruled, ne_one_fed, ne_one_surd, ne_one_two, ne_one_root, ne_two_row, ne_two_ruled, ne_two_fed, ne_two_surd, ne_two_one, ne_two_root, ne_root_row, ne_root_ruled, ne_root_fed, ne_root_surd, ne_root_one, ne_root_two, nq_two_row, nq_two_ruled, nq_two_fed, nq_two_surd, nq_two_one, nq_two_root, flatD, eqF]
        cases hA : nameD a
        · simp
        simp
        refine fComp_pure (fun x => !nameD x) (fun x => x) ?_
        have s2 : small 2 = true := sm (by decide)
        have s3 : small 3 = true := sm (by decide)
        simp [wipeL, restL, keepV, cutD, slE, ixD, okD_tmp hb, called_eq hb, okD_tmp hc, called_eq hc, okD_tmp hd, word_eq hd, okD_tmp he, most_eq he, okD_tmp hf, two_rows_eq hf, s2, s3]
        cases nameD b <;> cases nameD c <;> cases mannerD d <;> cases mostD e <;> cases twoD 4 f <;> simp
    by_cases h_root : k = "root"
    · subst h_root
      simp [lk_root, rd_root]
      match r with
      | [] => simp
      | [a] => simp
      | [a, b] => simp
      | a :: b :: c :: z :: t =>
        simp
        omega
      | [a, b, c] =>
        have ha := okDs_mem hx a (by simp)
        have hb := okDs_mem hx b (by simp)
        have hc := okDs_mem hx c (by simp)
        simp [ixD, cutD, slE, okD_tmp ha, okD_tmp hb, okD_tmp hc, called_eq ha, word_eq ha, numbers_eq ha, most_eq ha, two_rows_eq ha, called_eq hb, word_eq hb, numbers_eq hb, most_eq hb, two_rows_eq hb, called_eq hc, word_eq hc, numbers_eq hc, most_eq hc, two_rows_eq hc, ne_row_ruled, ne_row_fed, ne_row_surd, ne_row_one, ne_row_two, ne_row_root, ne_ruled_row, ne_ruled_fed, ne_ruled_surd, ne_ruled_one, ne_ruled_two, ne_ruled_root, ne_fed_row, ne_fed_ruled, ne_fed_surd, ne_fed_one, ne_fed_two, ne_fed_root, ne_surd_row, ne_surd_ruled, ne_surd_fed, ne_surd_one, ne_surd_two, ne_surd_root, ne_one_row, ne_one_ruled, ne_one_fed, ne_one_surd, ne_one_two, ne_one_root, ne_two_row, ne_two_ruled, ne_two_fed, ne_two_surd, ne_two_one, ne_two_root, ne_root_row, ne_root_ruled, ne_root_fed, ne_root_surd, ne_root_one, ne_root_two, nq_root_row, nq_root_ruled, nq_root_fed, nq_root_surd, nq_root_one, nq_root_two, flatD, eqF]
        cases nameD a <;> cases nameD b <;> cases mostD c <;> simp
    have hn : lookD [Sum.inr "row", Sum.inr "ruled", Sum.inr "fed", Sum.inr "surd", Sum.inr "one", Sum.inr "two", Sum.inr "root"] [D.int 4, .int 6, .int 3, .int 5, .int 6, .int 7, .int 4] (Sum.inr k) = none := by
      simp [lookD, h_row, h_ruled, h_fed, h_surd, h_one, h_two, h_root, Ne.symm h_row, Ne.symm h_ruled, Ne.symm h_fed, Ne.symm h_surd, Ne.symm h_one, Ne.symm h_two, Ne.symm h_root]
    simp [hn, rowD, h_row, h_ruled, h_fed, h_surd, h_one, h_two, h_root])
end G_k74

set_option Elab.async false
set_option linter.all false
set_option maxRecDepth 100000
set_option maxHeartbeats 2000000
set_option exponentiation.threshold 20000
namespace G_k74
open FL PySem L2
def planOk : D → Bool
  | .tup xs => decide ((xs.length : Int) ≤ 12) && xs.all rowOk
  | .lst xs => decide ((xs.length : Int) ≤ 12) && xs.all rowOk
  | _ => false
theorem is_plan_eq {d : D} {st : List MO} (h : okD d = true) : f_is_plan [d] st = .ok (.bl (planOk d)) st := okF_eq (by
  unfold f_is_plan b_is_plan f_are_rows b_are_rows
  cases d <;> simp [isi h, isTup, isLst, planOk, okD_tmp h]
  all_goals
    rename_i xs
    have hl : xs.length ≤ 1000 := by simp [okD] at h; exact h.1
    have hx : okDs xs = true := by simp [okD] at h; exact h.2
    split
    · rename_i h1
      refine fComp_pure (fun _ => true) (fun x => .bl (rowOk x)) ?_
      simp [wipeL, restL, keepV]
      refine ⟨by omega, fun x hx' => ?_, ?_⟩
      · have hk := okDs_mem hx x hx'
        simp [okD_tmp hk, is_plan_row_eq hk]
      · simp [h1]
    · rename_i h1
      simp [h1])
theorem plan_good_eq {d : D} {st : List MO} (h : okD d = true) : f_plan_good [d] st = .ok (.bl (planOk d)) st := okF_eq (by
  unfold f_plan_good b_plan_good
  cases d <;> simp [isi h, isTup, isLst, planOk, okD_tmp h]
  all_goals
    rename_i xs
    have hl : xs.length ≤ 1000 := by simp [okD] at h; exact h.1
    have hx : okDs xs = true := by simp [okD] at h; exact h.2
    split
    · rename_i h1
      intro h2
      omega
    · rename_i h1
      refine fComp_pure (fun x => !rowOk x) (fun x => x) ?_
      simp [wipeL, restL, keepV]
      refine ⟨by omega, fun x hx' => ?_, ?_⟩
      · have hk := okDs_mem hx x hx'
        simp [okD_tmp hk, row_good_eq hk]
      · rw [empty_filter]
        have h1' : (xs.length : Int) ≤ 12 := by omega
        simp [h1'])
end G_k74

set_option Elab.async false
set_option linter.all false
set_option maxRecDepth 100000
set_option maxHeartbeats 2000000
set_option exponentiation.threshold 20000
namespace G_k74
open FL PySem L2
/-- a name -/
def NmD (d : D) : Prop := ∃ z : Str, d = .str z ∧ 1 ≤ z.length ∧ z.length ≤ 6 ∧ lets z = true
theorem NmD.name {d : D} (h : NmD d) : nameD d = true := by
  obtain ⟨z, rfl, h1, h2, h3⟩ := h
  simp [nameD, h3]
  omega
theorem lets_small : ∀ c ∈ letters.cps.toList, c < 1000 := by decide +kernel
theorem lets_okS {z : Str} (h : lets z = true) (hl : z.length ≤ 6) : okS z = true := by
  unfold okS
  unfold lets at h
  rw [Bool.and_eq_true, decide_eq_true_iff]
  refine ⟨by omega, ?_⟩
  rw [List.all_eq_true] at h ⊢
  exact fun c hc => decide_eq_true (lets_small c (of_decide_eq_true (h c hc)))
theorem NmD.ok {d : D} (h : NmD d) : okD d = true := by
  obtain ⟨z, rfl, h1, h2, h3⟩ := h
  simp [okD, lets_okS h3 h2]
def LtD (d : D) : Prop := ∃ z : Str, d = .str z ∧ z.length = 1 ∧ lets z = true
theorem lets_app {x y : Str} (h1 : lets x = true) (h2 : lets y = true) : lets (x ++ y) = true := by
  unfold lets at *
  rw [show (x ++ y).cps = x.cps ++ y.cps from rfl, Array.toList_append, List.all_append, h1, h2]
  rfl
theorem len_app {x y : Str} : (x ++ y).length = x.length + y.length := by
  show (x.cps ++ y.cps).size = _
  rw [Array.size_append]
  rfl
theorem letter_ix {T : MT} {i : Int} {P : D → Prop} (h0 : 0 ≤ i) (h1 : i < 26) (q : ∀ z : Str, z.length = 1 → lets z = true → P (.str z)) : okO (opIx T (.str "abcdefghijklmnopqrstuvwxyz") (.int i)) P := by
  rw [okO_ixS]
  refine ⟨by decide, ?_⟩
  have hl : (Str.ofString "abcdefghijklmnopqrstuvwxyz").length = 26 := by decide
  rw [hl]
  unfold ixD
  rw [if_pos h0, if_pos (show i < ((26 : Nat) : Int) from h1)]
  have hk : i.toNat < (Str.ofString "abcdefghijklmnopqrstuvwxyz").cps.toList.length := by
    rw [show (Str.ofString "abcdefghijklmnopqrstuvwxyz").cps.toList.length = 26 by decide]
    omega
  show okO ((Str.ofString "abcdefghijklmnopqrstuvwxyz").cps.toList[i.toNat]?) _
  rw [List.getElem?_eq_getElem hk]
  refine q _ rfl ?_
  have hm := List.getElem_mem hk
  unfold lets
  simp [letters]
theorem join_str : ∀ ys : List Str, (∀ z ∈ ys, z.length = 1 ∧ lets z = true) → (Str.join "" ys).length = ys.length ∧ lets (Str.join "" ys) = true
  | [], _ => ⟨rfl, by decide⟩
  | [x], h => by
    have := h x (by simp)
    exact ⟨this.1, this.2⟩
  | x :: y :: r, h => by
    have h1 := h x (by simp)
    have h2 := join_str (y :: r) fun z hz => h z (List.mem_cons_of_mem _ hz)
    have e : Str.join "" (x :: y :: r) = x ++ ("" : Str) ++ Str.join "" (y :: r) := rfl
    rw [e]
    refine ⟨?_, lets_app (lets_app h1.2 (by decide)) h2.2⟩
    rw [len_app, len_app, h1.1, h2.1, show (Str.ofString "").length = 0 from rfl]
    simp only [List.length_cons]
    omega
theorem strs_of : ∀ ds : List D, (∀ d ∈ ds, LtD d) → ∃ ys : List Str, ds = ys.map D.str ∧ ∀ z ∈ ys, z.length = 1 ∧ lets z = true
  | [], _ => ⟨[], rfl, by simp⟩
  | d :: ds, h => by
    obtain ⟨z, rfl, h1, h2⟩ := h d (by simp)
    obtain ⟨ys, rfl, h3⟩ := strs_of ds fun d hd => h d (List.mem_cons_of_mem _ hd)
    exact ⟨z :: ys, rfl, fun w hw => (List.mem_cons.mp hw).elim (fun e => by rw [e]; exact ⟨h1, h2⟩) (h3 w)⟩
theorem toStrs_str : ∀ ys : List Str, toStrs (ys.map D.str) = some ys
  | [] => rfl
  | y :: ys => by simp [toStrs, toStrs_str ys]
theorem join_ok {T : MT} {ds : List D} {P : D → Prop} (h : ∀ d ∈ ds, LtD d) (hl : ds.length ≤ 1000) (q : ∀ z : Str, z.length = ds.length → lets z = true → P (.str z)) : okO (opJoin T (.str "") (.lst ds)) P := by
  obtain ⟨ys, rfl, h2⟩ := strs_of ds h
  have hj := join_str ys h2
  have hs : (ys.map (·.length)).sum = ys.length := by
    clear h hl q hj
    induction ys with
    | nil => rfl
    | cons y ys ih =>
      rw [List.map_cons, List.sum_cons, ih fun z hz => h2 z (List.mem_cons_of_mem _ hz), (h2 y (by simp)).1, List.length_cons]
      omega
  have hc : (ys.map (·.length)).sum + ys.length * (Str.ofString "").length ≤ sz := by
    rw [hs, show (Str.ofString "").length = 0 from rfl]
    simp at hl ⊢
    omega
  unfold opJoin seqT
  simp only [vw, Option.bind_some, toStrs_str]
  rw [if_pos hc]
  have e : Txt.join "" ys = Str.join "" ys := StrLaws.glued_eq_join _ _
  rw [okO_some, e]
  exact q _ (by rw [hj.1, List.length_map]) hj.2
theorem mul01 {T : MT} {x : Str} {i : Int} {P : D → Prop} (h0 : 0 ≤ i) (h1 : i < 2) (hx : x.length = 1) (q0 : P (.str "")) (q1 : P (.str x)) : okO (opMul T (.str x) (.int i)) P := by
  rw [okO_mulS]
  refine ⟨⟨h0, by omega, by omega⟩, ?_⟩
  rcases (show i = 0 ∨ i = 1 by omega) with rfl | rfl
  · exact q0
  · have e : (⟨(List.replicate (1 : Int).toNat x.cps.toList).flatten.toArray⟩ : Str) = x := by
      have : (List.replicate (1 : Int).toNat x.cps.toList).flatten = x.cps.toList := by simp
      rw [this]
    rw [e]
    exact q1
theorem cut_mem {α : Type} {xs : List α} {lo hi : Option Int} {x : α} (h : x ∈ cutD xs lo hi) : x ∈ xs := List.mem_of_mem_drop (List.mem_of_mem_take h)
theorem cut_lo {α : Type} {xs : List α} {i : Int} (h0 : 0 ≤ i) (h1 : i ≤ xs.length) : cutD xs none (some i) = xs.take i.toNat := by
  have hn : ¬ i < 0 := by omega
  simp only [cutD, slE, if_neg hn, List.drop_zero, Nat.sub_zero]
  congr 1
  omega
theorem cut_hi {α : Type} {xs : List α} {i : Int} (h0 : 0 ≤ i) (h1 : i ≤ xs.length) : cutD xs (some i) none = xs.drop i.toNat := by
  have hn : ¬ i < 0 := by omega
  have e : min i.toNat xs.length = i.toNat := by omega
  simp only [cutD, slE, if_neg hn, e]
  rw [List.take_of_length_le (by rw [List.length_drop]; omega)]
theorem names_ok {p k : Nat} {n : Int} {st : List MO} {Q : D → List MO → Prop} (hp : PU p st (k + 20)) (h0 : 0 ≤ n) (h1 : n ≤ 12) (q : ∀ ns st', (ns.length : Int) = n → (∀ d ∈ ns, NmD d) → PU p st' k → Q (.lst ns) st') : okF (f_names [.obj p, .int n] st) Q := by
  unfold f_names b_names
  simp
  refine take_ok hp (by decide) (by decide) fun way st1 w0 w1 hp => ?_
  simp
  refine take_ok hp (by decide) (by decide) fun fi st2 f0 f1 hp => ?_
  simp
  refine take_ok hp (by decide) (by decide) fun si st3 s0 s1 hp => ?_
  simp
  refine ix_in s0 s1 fun d hd => ?_
  obtain ⟨s, rfl, sa, sb⟩ : ∃ s : Int, d = .int s ∧ 0 ≤ s ∧ s ≤ 11 := by
    simp at hd
    rcases hd with rfl | rfl | rfl | rfl <;> exact ⟨_, rfl, by decide, by decide⟩
  simp
  split
  · refine fComp_ok ?_
    simp [rgOk]
    refine ⟨by omega, fun k acc st' => acc.length = k ∧ (∀ d ∈ acc, NmD d) ∧ st' = st3, by simp, ?_, ?_⟩
    · rintro j acc st' x hx ⟨e1, e2, rfl⟩
      obtain ⟨rfl, hj⟩ := rgD_get hx
      simp [wipeL]
      refine ⟨⟨sm (by omega), sm (by omega)⟩, ix_in (Int.fmod_nonneg_of_pos _ (by decide)) (Int.fmod_lt_of_pos _ (by decide)) fun d hd => ?_⟩
      have hd : NmD d := by
        simp at hd
        rcases hd with rfl | rfl | rfl | rfl | rfl | rfl | rfl | rfl | rfl | rfl | rfl | rfl <;> exact ⟨_, rfl, by decide, by decide, by decide⟩
      refine ⟨okD_tmp hd.ok, by omega, by omega, fun d' h => ?_⟩
      rcases h with h | rfl
      · exact e2 d' h
      · exact hd
    · rintro acc st' ⟨e1, e2, rfl⟩
      rw [rgD_len] at e1
      exact q acc _ (by omega) e2 (hp.mono (by omega))
  · refine fComp_ok ?_
    simp
    refine take_ok hp (by decide) (by decide) fun sn st4 n0 n1 hp => ?_
    simp [rgOk]
    refine ⟨by omega, fun j acc st' => acc.length = j ∧ (∀ d ∈ acc, LtD d) ∧ PU p st' (k + 16 - j), ⟨rfl, by simp, hp⟩, ?_, ?_⟩
    · rintro j acc st' x hx ⟨e1, e2, hp⟩
      obtain ⟨rfl, hj⟩ := rgD_get hx
      simp [wipeL]
      refine take_ok (k := k + 15 - j) (hp.mono (by omega)) (by decide) (by decide) fun i st5 i0 i1 hp => ?_
      refine letter_ix i0 i1 fun z z1 z2 => ?_
      simp
      refine ⟨by omega, e1, fun d hd => ?_, hp⟩
      rcases hd with hd | rfl
      · exact e2 d hd
      · exact ⟨z, rfl, z1, z2⟩
    · rintro acc st' ⟨e1, e2, hp⟩
      rw [rgD_len] at e1 hp
      simp [restL, keepV]
      refine take_ok (k := k + 11) (hp.mono (by omega)) (by omega) (by omega) fun at_ st5 a0 a1 hp => ?_
      simp
      refine join_ok (fun d hd => e2 d (cut_mem hd)) (by rw [cut_lo a0 (by omega), List.length_take]; omega) fun hd_ l1 g1 => ?_
      refine join_ok (fun d hd => e2 d (cut_mem hd)) (by rw [cut_hi a0 (by omega), List.length_drop]; omega) fun tl_ l2 g2 => ?_
      rw [cut_lo a0 (by omega), List.length_take] at l1
      rw [cut_hi a0 (by omega), List.length_drop] at l2
      refine ⟨_, _, ⟨rfl, rfl⟩, ⟨rfl, rfl⟩, ?_⟩
      refine sFor_ok ?_
      simp [rgOk]
      refine ⟨by omega, fun j T => ∃ (ns : List D) (s9 s13 : Sl), T = ⟨[.val (.obj p), .val (.int n), .val (.str "abcdefghijklmnopqrstuvwxyz"), .val (.int way), .val (.int fi), .val (.int s), .val (.lst acc), .val (.int at_), .own (.lst ns), s9, .emp, .val (.str hd_), .val (.str tl_), s13], st5⟩ ∧ ns.length = j ∧ ∀ d ∈ ns, NmD d,
        ⟨[], .emp, .emp, rfl, rfl, by simp⟩, ?_, ?_⟩
      · rintro j x T2 hx ⟨ns, s9, s13, rfl, e3, e4⟩
        obtain ⟨rfl, hj⟩ := rgD_get hx
        simp
        refine ⟨⟨sm (by omega), sm (by omega)⟩, letter_ix (Int.fmod_nonneg_of_pos _ (by decide)) (Int.fmod_lt_of_pos _ (by decide)) fun z z1 z2 => ?_⟩
        simp [len_app]
        have la := lets_app (lets_app g1 z2) g2
        have fin : ∀ w : Str, 1 ≤ w.length → w.length ≤ 6 → lets w = true → ns.length < 1000000 ∧ ns.length = j ∧ ∀ d : D, d ∈ ns ∨ d = .str w → NmD d := fun w w1 w2 w3 => ⟨by omega, e3, fun d hd => hd.elim (e4 d) fun e => by rw [e]; exact ⟨w, rfl, w1, w2, w3⟩⟩
        refine ⟨by omega, by omega, ?_⟩
        split
        · refine letter_ix f0 f1 fun y y1 y2 => ?_
          refine mul01 (Int.fmod_nonneg_of_pos _ (by decide)) (Int.fmod_lt_of_pos _ (by decide)) y1 ?_ ?_
          · simp [len_app]
            have e0 : (Str.ofString "").length = 0 := rfl
            exact ⟨by omega, fin _ (by rw [len_app, len_app, len_app]; omega) (by rw [len_app, len_app, len_app]; omega) (lets_app la (by decide))⟩
          · simp [len_app]
            exact ⟨by omega, fin _ (by rw [len_app, len_app, len_app]; omega) (by rw [len_app, len_app, len_app]; omega) (lets_app la y2)⟩
        · exact fin _ (by rw [len_app, len_app]; omega) (by rw [len_app, len_app]; omega) la
      · rintro T2 ⟨ns, s9, s13, rfl, e3, e4⟩
        rw [rgD_len] at e3
        simp
        exact q ns st5 (by omega) e4 (hp.mono (by omega))
end G_k74

set_option Elab.async false
set_option linter.all false
set_option maxRecDepth 100000
set_option maxHeartbeats 2000000
set_option exponentiation.threshold 20000
namespace G_k74
open FL PySem L2
def SmI (d : D) : Prop := ∃ i : Int, d = .int i ∧ -1000 ≤ i ∧ i ≤ 1000
def manners : List Str := ["floor", "ceil", "near"]
theorem pool_of {m : Str} (h : m ∈ manners) (a b c : List D) (ha : a.length = 5 ∧ ∀ d ∈ a, ∃ i : Int, d = .int i ∧ 0 ≤ i ∧ i ≤ 60) (hb : b.length = 5 ∧ ∀ d ∈ b, ∃ i : Int, d = .int i ∧ 0 ≤ i ∧ i ≤ 60) (hc : c.length = 5 ∧ ∀ d ∈ c, ∃ i : Int, d = .int i ∧ 0 ≤ i ∧ i ≤ 60) :
    ∃ pool, lookD [Sum.inr "floor", Sum.inr "ceil", Sum.inr "near"] [.lst a, .lst b, .lst c] (Sum.inr m) = some (.lst pool) ∧ pool.length = 5 ∧ ∀ d ∈ pool, ∃ i : Int, d = .int i ∧ 0 ≤ i ∧ i ≤ 60 := by
  simp only [manners, List.mem_cons, List.not_mem_nil, or_false] at h
  rcases h with rfl | rfl | rfl
  · exact ⟨a, rfl, ha⟩
  · exact ⟨b, rfl, hb⟩
  · exact ⟨c, rfl, hc⟩
theorem legal_ok {p k : Nat} {m : Str} {st : List MO} {Q : D → List MO → Prop} (hp : PU p st (k + 100)) (hm : m ∈ manners) (q : ∀ xs st', 1 ≤ xs.length → xs.length ≤ 40 → (∀ d ∈ xs, SmI d) → PU p st' k → Q (.tup xs) st') : okF (f_legal [.obj p, .str m] st) Q := by
  unfold f_legal b_legal
  simp
  obtain ⟨pool, e, hl, hpool⟩ := pool_of hm [D.int 1, D.int 1, D.int 2, D.int 3, D.int 40] [D.int 2, D.int 2, D.int 3, D.int 4, D.int 50] [D.int 3, D.int 3, D.int 4, D.int 5, D.int 60] (by simp) (by simp) (by simp)
  rw [e]
  simp
  refine take_ok hp (by decide) (by decide) fun i0 st1 a0 a1 hp => ?_
  simp
  refine sFor_ok ?_
  simp
  refine take_ok hp (by decide) (by decide) fun i1 st2 b0 b1 hp => ?_
  simp
  refine ix_in (n := 2) (by split <;> decide) (by split <;> decide) fun d hd => ?_
  obtain ⟨mx, rfl, m0, m1⟩ : ∃ mx : Int, d = .int mx ∧ 0 < mx ∧ mx ≤ 30 := by
    simp at hd
    rcases hd with rfl | rfl <;> exact ⟨_, rfl, by decide, by decide⟩
  simp
  refine take_ok hp m0 (by omega) fun cnt st3 c0 c1 hp => ?_
  simp [rgOk]
  refine ⟨by omega, fun j T => ∃ (xs : List D) (s4 s5 : Sl) (st' : List MO), T = ⟨[.val (.obj p), .val (.str m), .val (.lst pool), .own (.lst xs), s4, s5], st'⟩ ∧ xs.length = j + 1 ∧ (∀ d ∈ xs, SmI d) ∧ PU p st' (k + 97 - 2 * j), ⟨_, .emp, .emp, st3, rfl, by simp, fun d hd => ?_, hp⟩, ?_, ?_⟩
  · simp at hd
    exact ⟨_, hd, by omega, by omega⟩
  · rintro j x T2 hx ⟨xs, s4, s5, st', rfl, e3, e4, hp⟩
    obtain ⟨rfl, hj⟩ := rgD_get hx
    simp
    refine take_ok (k := k + 96 - 2 * j) (hp.mono (by omega)) (by decide) (by decide) fun i2 st4 d0 d1 hp => ?_
    refine ix_in d0 (by rw [hl]; exact d1) fun d hd => ?_
    obtain ⟨t, rfl, t0, t1⟩ := hpool d hd
    simp
    have fin : ∀ (y : Int) (st5 : List MO), -100 ≤ y → y ≤ 100 → PU p st5 (k + 97 - 2 * (j + 1)) → xs.length < 1000000 ∧ ∃ (ys : List D) (s4 s5 : Sl) (st' : List MO), ((xs ++ [.int y] = ys ∧ Sl.val (.int j) = s4 ∧ Sl.val (.int t) = s5) ∧ st5 = st') ∧ ys.length = j + 1 + 1 ∧ (∀ d ∈ ys, SmI d) ∧ PU p st' (k + 97 - 2 * (j + 1)) := fun y st5 y0 y1 hp => ⟨by omega, _, _, _, _, ⟨⟨rfl, rfl, rfl⟩, rfl⟩, by simp [e3], fun d hd => by
      rcases List.mem_append.mp hd with hd | hd
      · exact e4 d hd
      · simp at hd
        exact ⟨y, hd, by omega, by omega⟩, hp⟩
    have s1 : ∀ {x : Int}, -1000 ≤ x → x ≤ 1000 → small x = true := fun h1 h2 => sm (by omega)
    split
    · refine take_ok (k := k + 95 - 2 * j) (hp.mono (by omega)) (by decide) (by decide) fun i3 st5 f0 f1 hp => ?_
      simp
      by_cases hz : i3 = 0
      · simp only [hz, if_true]
        exact ⟨⟨s1 (by omega) (by omega), s1 (by omega) (by omega)⟩, ⟨s1 (by omega) (by omega), s1 (by omega) (by omega)⟩, fin _ _ (by omega) (by omega) (hp.mono (by omega))⟩
      · simp only [hz, if_false]
        exact ⟨⟨s1 (by omega) (by omega), s1 (by omega) (by omega)⟩, ⟨s1 (by omega) (by omega), s1 (by omega) (by omega)⟩, fin _ _ (by omega) (by omega) (hp.mono (by omega))⟩
    · exact ⟨⟨s1 (by omega) (by omega), s1 (by omega) (by omega)⟩, ⟨s1 (by omega) (by omega), s1 (by omega) (by omega)⟩, fin _ _ (by omega) (by omega) (hp.mono (by omega))⟩
  · rintro T2 ⟨xs, s4, s5, st', rfl, e3, e4, hp⟩
    rw [rgD_len] at e3 hp
    simp
    have done : ∀ ys : List D, ys.length = xs.length → (∀ d ∈ ys, SmI d) → Q (.tup ys) st' := fun ys h1 h2 => q ys st' (by omega) (by omega) h2 (hp.mono (by omega))
    split
    · refine ix_last (by omega) fun d hd => ?_
      obtain ⟨y, rfl, y0, y1⟩ := e4 d hd
      simp
      split
      · rw [ixD_neg1 (by omega)]
        simp
        refine done _ (by simp) fun d hd => ?_
        rcases List.mem_or_eq_of_mem_set hd with hd | rfl
        · exact e4 d hd
        · exact ⟨2, rfl, by decide, by decide⟩
      · exact done xs rfl e4
    · exact done xs rfl e4
end G_k74

set_option Elab.async false
set_option linter.all false
set_option maxRecDepth 100000
set_option maxHeartbeats 2000000
set_option exponentiation.threshold 20000
namespace G_k74
open FL PySem L2
mutual
/-- how long a thing's text is at most, how deep it is -/
def wt : D → Nat
  | .non => 4
  | .bl _ => 5
  | .int _ => 620
  | .str s => 2 + 10 * s.length
  | .tup xs => 3 + wts xs
  | .lst xs => 3 + wts xs
  | .dic _ _ => 2
  | _ => 0
def wts : List D → Nat
  | [] => 0
  | d :: ds => wt d + 2 + wts ds
end
mutual
def dep : D → Nat
  | .tup xs => 1 + deps xs
  | .lst xs => 1 + deps xs
  | .dic _ _ => 1
  | _ => 0
def deps : List D → Nat
  | [] => 0
  | d :: ds => max (dep d) (deps ds)
end
theorem wts_le {n : Nat} : ∀ {xs : List D}, (∀ d ∈ xs, wt d ≤ n) → wts xs ≤ (n + 2) * xs.length
  | [], _ => by simp [wts]
  | d :: ds, h => by
    have h1 := h d (by simp)
    have h2 := wts_le (xs := ds) fun x hx => h x (List.mem_cons_of_mem _ hx)
    simp only [wts, List.length_cons, Nat.mul_succ]
    omega
theorem deps_le {n : Nat} : ∀ {xs : List D}, (∀ d ∈ xs, dep d ≤ n) → deps xs ≤ n
  | [], _ => by simp [deps]
  | d :: ds, h => by
    have h1 := h d (by simp)
    have h2 := deps_le (xs := ds) fun x hx => h x (List.mem_cons_of_mem _ hx)
    simp only [deps]
    omega
/-- a tuple of small numbers -/
def IntT (lo hi : Nat) (d : D) : Prop := ∃ xs, d = .tup xs ∧ lo ≤ xs.length ∧ xs.length ≤ hi ∧ ∀ x ∈ xs, SmI x
theorem SmI.facts {d : D} (h : SmI d) : okD d = true ∧ shortD d = true ∧ wt d = 620 ∧ dep d = 0 ∧ isTmp d = false := by
  obtain ⟨i, rfl, h1, h2⟩ := h
  refine ⟨?_, ?_, by simp [wt], by simp [dep], by simp⟩
  · unfold okD
    rw [decide_eq_true_iff]
    have : i.natAbs < 2 ^ 64 := by omega
    exact Nat.lt_trans this (Nat.pow_lt_pow_right (by decide) (by decide))
  · simp [shortD]
    omega
theorem IntT.facts {lo hi : Nat} {d : D} (h : IntT lo hi d) (hh : hi ≤ 100) : okD d = true ∧ wt d ≤ 3 + 622 * hi ∧ dep d ≤ 1 ∧ ∀ a b : Int, a ≤ lo → (hi : Int) ≤ b → nums a b d = true := by
  obtain ⟨xs, rfl, h1, h2, h3⟩ := h
  refine ⟨?_, ?_, ?_, fun a b ha hb => ?_⟩
  · simp only [okD, Bool.and_eq_true, decide_eq_true_eq]
    exact ⟨by omega, okDs_of fun d hd => (h3 d hd).facts.1⟩
  · have := wts_le (n := 620) (xs := xs) fun d hd => Nat.le_of_eq (h3 d hd).facts.2.2.1
    simp only [wt]
    have h4 : (620 + 2) * xs.length ≤ 622 * hi := Nat.mul_le_mul_left _ h2
    omega
  · have := deps_le (n := 0) (xs := xs) fun d hd => Nat.le_of_eq (h3 d hd).facts.2.2.2.1
    simp only [dep]
    omega
  · simp only [nums, Bool.and_eq_true, decide_eq_true_eq, List.all_eq_true]
    exact ⟨⟨by omega, by omega⟩, fun d hd => (h3 d hd).facts.2.1⟩
theorem NmD.wt {d : D} (h : NmD d) : wt d ≤ 62 ∧ dep d = 0 := by
  obtain ⟨z, rfl, h1, h2, h3⟩ := h
  simp [G_k74.wt, dep]
  omega
theorem man_facts {m : Str} (h : m ∈ manners) : mannerD (.str m) = true ∧ okD (.str m) = true ∧ wt (.str m) ≤ 62 ∧ dep (.str m) = 0 := by
  simp only [manners, List.mem_cons, List.not_mem_nil, or_false] at h
  rcases h with rfl | rfl | rfl <;> exact ⟨by decide, by decide, by decide, by decide⟩
/-- a good row -/
structure RowG (d : D) : Prop where
  good : rowOk d = true
  ok : okD d = true
  tup : ∃ k r, d = .tup (.str k :: r)
  w : wt d ≤ 70000
  dp : dep d ≤ 5
theorem row_row {nm t : D} {m : Str} (h : NmD nm) (hm : m ∈ manners) (ht : IntT 1 40 t) : RowG (.tup [.str "row", nm, .str m, t]) := by
  obtain ⟨m1, m2, m3, m4⟩ := man_facts hm
  obtain ⟨t1, t2, t3, t4⟩ := ht.facts (by decide)
  have n1 := h.name
  have n2 := h.ok
  have n3 := h.wt
  have e := t4 1 100 (by decide) (by decide)
  have lo : okS (Str.ofString "row") = true := by decide
  have l : (Str.ofString "row").length = 3 := rfl
  refine ⟨by simp [rowOk, rd_row, n1, m1, e], by simp [okD, okDs, n2, t1, lo] <;> simpa [okD] using m2, ⟨_, _, rfl⟩, ?_, ?_⟩
  · simp only [wt, wts] at m3 ⊢
    rw [l]
    omega
  · simp only [dep, deps] at m4 ⊢
    omega
theorem row_fed {nm : D} {m : Str} (h : NmD nm) (hm : m ∈ manners) : RowG (.tup [.str "fed", nm, .str m]) := by
  obtain ⟨m1, m2, m3, m4⟩ := man_facts hm
  have n1 := h.name
  have n2 := h.ok
  have n3 := h.wt
  have lo : okS (Str.ofString "fed") = true := by decide
  have l : (Str.ofString "fed").length = 3 := rfl
  refine ⟨by simp [rowOk, rd_fed, n1, m1], by simp [okD, okDs, n2, lo] <;> simpa [okD] using m2, ⟨_, _, rfl⟩, ?_, ?_⟩
  · simp only [wt, wts] at m3 ⊢
    rw [l]
    omega
  · simp only [dep, deps] at m4 ⊢
    omega
theorem row_ruled {nm t u v : D} {m : Str} (h : NmD nm) (hm : m ∈ manners) (ht : IntT 1 20 t) (hu : IntT 1 20 u) (hv : v = .non ∨ IntT 1 20 v) : RowG (.tup [.str "ruled", nm, .str m, t, u, v]) := by
  obtain ⟨m1, m2, m3, m4⟩ := man_facts hm
  obtain ⟨t1, t2, t3, t4⟩ := ht.facts (by decide)
  obtain ⟨u1, u2, u3, u4⟩ := hu.facts (by decide)
  have n1 := h.name
  have n2 := h.ok
  have n3 := h.wt
  have e := t4 1 100 (by decide) (by decide)
  have e2 := u4 1 20 (by decide) (by decide)
  have lo : okS (Str.ofString "ruled") = true := by decide
  have l : (Str.ofString "ruled").length = 5 := rfl
  have hv' : okD v = true ∧ stepsD v = true ∧ wt v ≤ 20000 ∧ dep v ≤ 1 := by
    rcases hv with rfl | hv
    · exact ⟨by decide, by decide, by decide, by decide⟩
    · obtain ⟨v1, v2, v3, v4⟩ := hv.facts (by decide)
      exact ⟨v1, by simp [stepsD, v4 1 20 (by decide) (by decide)], by omega, v3⟩
  obtain ⟨v1, v2, v3, v4⟩ := hv'
  refine ⟨by simp [rowOk, rd_ruled, n1, m1, e, e2, v2], by simp [okD, okDs, n2, t1, u1, v1, lo] <;> simpa [okD] using m2, ⟨_, _, rfl⟩, ?_, ?_⟩
  · simp only [wt, wts] at m3 ⊢
    rw [l]
    omega
  · simp only [dep, deps] at m4 ⊢
    omega
theorem row_surd {nm a b c : D} (h : NmD nm) (ha : SmI a) (hb : SmI b) (hc : SmI c) : RowG (.tup [.str "surd", nm, a, b, c]) := by
  obtain ⟨a1, a2, a3, a4, a5⟩ := ha.facts
  obtain ⟨b1, b2, b3, b4, b5⟩ := hb.facts
  obtain ⟨c1, c2, c3, c4, c5⟩ := hc.facts
  have n1 := h.name
  have n2 := h.ok
  have n3 := h.wt
  have lo : okS (Str.ofString "surd") = true := by decide
  have l : (Str.ofString "surd").length = 4 := rfl
  refine ⟨by simp [rowOk, rd_surd, n1, a2, b2, c2], by simp [okD, okDs, n2, lo, a1, b1, c1], ⟨_, _, rfl⟩, ?_, ?_⟩
  · simp only [wt, wts]
    rw [l]
    omega
  · simp only [dep, deps]
    omega
theorem two_of {n : Nat} {a b : D} (ha : IntT n n a) (hb : IntT n n b) (hn : n ≤ 10) : twoD n (.tup [a, b]) = true ∧ okD (.tup [a, b]) = true ∧ wt (.tup [a, b]) ≤ 20000 ∧ dep (.tup [a, b]) ≤ 2 := by
  obtain ⟨a1, a2, a3, a4⟩ := ha.facts (by omega)
  obtain ⟨b1, b2, b3, b4⟩ := hb.facts (by omega)
  have ea := a4 n n (by omega) (by omega)
  have eb := b4 n n (by omega) (by omega)
  refine ⟨by simp [twoD, ea, eb], by simp [okD, okDs, a1, b1], ?_, ?_⟩
  · simp only [wt, wts]
    omega
  · simp only [dep, deps]
    omega
theorem most_facts {i : Int} (h0 : 1 ≤ i) (h1 : i ≤ 64) : mostD (.int i) = true ∧ okD (.int i) = true := ⟨by simp [mostD, h0, h1], (SmI.facts ⟨i, rfl, by omega, by omega⟩).1⟩
theorem row_root {nm o : D} {i : Int} (h : NmD nm) (ho : NmD o) (h0 : 1 ≤ i) (h1 : i ≤ 64) : RowG (.tup [.str "root", nm, o, .int i]) := by
  obtain ⟨i1, i2⟩ := most_facts h0 h1
  have n1 := h.name
  have n2 := h.ok
  have n3 := h.wt
  have o1 := ho.name
  have o2 := ho.ok
  have o3 := ho.wt
  have lo : okS (Str.ofString "root") = true := by decide
  have l : (Str.ofString "root").length = 4 := rfl
  refine ⟨by simp [rowOk, rd_root, n1, o1, i1], by simp [okD, okDs, n2, o2, lo] <;> simpa [okD] using i2, ⟨_, _, rfl⟩, ?_, ?_⟩
  · simp only [wt, wts]
    rw [l]
    omega
  · simp only [dep, deps]
    omega
theorem row_one {nm o t : D} {m : Str} {i : Int} (h : NmD nm) (ho : NmD o) (hm : m ∈ manners) (h0 : 1 ≤ i) (h1 : i ≤ 64) (ht : twoD 2 t = true ∧ okD t = true ∧ wt t ≤ 20000 ∧ dep t ≤ 2) : RowG (.tup [.str "one", nm, o, .str m, .int i, t]) := by
  obtain ⟨i1, i2⟩ := most_facts h0 h1
  obtain ⟨t1, t2, t3, t4⟩ := ht
  obtain ⟨m1, m2, m3, m4⟩ := man_facts hm
  have n1 := h.name
  have n2 := h.ok
  have n3 := h.wt
  have o1 := ho.name
  have o2 := ho.ok
  have o3 := ho.wt
  have lo : okS (Str.ofString "one") = true := by decide
  have l : (Str.ofString "one").length = 3 := rfl
  refine ⟨by simp [rowOk, rd_one, n1, o1, i1, m1, t1], by simp only [okD, okDs, n2, o2, t2, lo, Bool.and_true, Bool.true_and] at m2 i2 ⊢; simp [m2, i2], ⟨_, _, rfl⟩, ?_, ?_⟩
  · simp only [wt, wts] at m3 ⊢
    rw [l]
    omega
  · simp only [dep, deps] at m4 ⊢
    omega
theorem row_two {nm o o' t : D} {m : Str} {i : Int} (h : NmD nm) (ho : NmD o) (ho' : NmD o') (hm : m ∈ manners) (h0 : 1 ≤ i) (h1 : i ≤ 64) (ht : twoD 4 t = true ∧ okD t = true ∧ wt t ≤ 20000 ∧ dep t ≤ 2) : RowG (.tup [.str "two", nm, o, o', .str m, .int i, t]) := by
  obtain ⟨i1, i2⟩ := most_facts h0 h1
  obtain ⟨t1, t2, t3, t4⟩ := ht
  obtain ⟨m1, m2, m3, m4⟩ := man_facts hm
  have n1 := h.name
  have n2 := h.ok
  have n3 := h.wt
  have o1 := ho.name
  have o2 := ho.ok
  have o3 := ho.wt
  have p1 := ho'.name
  have p2 := ho'.ok
  have p3 := ho'.wt
  have lo : okS (Str.ofString "two") = true := by decide
  have l : (Str.ofString "two").length = 3 := rfl
  refine ⟨by simp [rowOk, rd_two, n1, o1, p1, i1, m1, t1], by simp only [okD, okDs, n2, o2, p2, t2, lo, Bool.and_true, Bool.true_and] at m2 i2 ⊢; simp [m2, i2], ⟨_, _, rfl⟩, ?_, ?_⟩
  · simp only [wt, wts] at m3 ⊢
    rw [l]
    omega
  · simp only [dep, deps] at m4 ⊢
    omega
end G_k74

set_option Elab.async false
set_option linter.all false
set_option maxRecDepth 100000
set_option maxHeartbeats 2000000
set_option exponentiation.threshold 20000
namespace G_k74
open FL PySem L2
theorem SmI.mk {i : Int} (h0 : -1000 ≤ i) (h1 : i ≤ 1000) : SmI (.int i) := ⟨i, rfl, h0, h1⟩
theorem man_ix {i : Int} {P : D → Prop} (h0 : 0 ≤ i) (h1 : i < 4) (q : ∀ m ∈ manners, P (.str m)) : okO ((ixD 4 i).bind fun j => [D.str "floor", D.str "floor", D.str "ceil", D.str "near"][j]?) P := by
  refine ix_in h0 h1 fun d hd => ?_
  simp at hd
  rcases hd with rfl | rfl | rfl
  · exact q _ (by simp [manners])
  · exact q _ (by simp [manners])
  · exact q _ (by simp [manners])
/-- tuple([f of a draw for ..]) -/
theorem source_ok {p k : Nat} {nm : D} {st : List MO} {Q : D → List MO → Prop} (hp : PU p st (k + 200)) (hn : NmD nm) (q : ∀ r st', RowG r → PU p st' k → Q r st') : okF (f_source [.obj p, nm] st) Q := by
  have ht := okD_tmp hn.ok
  unfold f_source b_source
  simp
  refine take_ok hp (by decide) (by decide) fun i0 st1 a0 a1 hp => ?_
  refine man_ix a0 a1 fun m hm => ?_
  simp
  refine take_ok hp (by decide) (by decide) fun way st2 b0 b1 hp => ?_
  simp
  split
  · simp [ht]
    refine legal_ok (k := k + 90) (hp.mono (by omega)) hm fun xs st3 x1 x2 x3 hp => ?_
    simp [ht]
    exact q _ _ (row_row hn hm ⟨xs, rfl, x1, x2, x3⟩) (hp.mono (by omega))
  rename_i w2
  split
  · refine fComp_ok ?_
    simp
    refine take_ok hp (by decide) (by decide) fun cn st3 c0 c1 hp => ?_
    simp [rgOk]
    refine ⟨by omega, fun j acc st' => acc.length = j ∧ (∀ d ∈ acc, SmI d) ∧ PU p st' (k + 197 - j), ⟨rfl, by simp, hp⟩, ?_, ?_⟩
    · rintro j acc st' x hx ⟨e1, e2, hp⟩
      obtain ⟨rfl, hj⟩ := rgD_get hx
      simp [wipeL]
      refine take_ok (k := k + 196 - j) (hp.mono (by omega)) (by decide) (by decide) fun i1 st4 d0 d1 hp => ?_
      simp
      refine ⟨by omega, e1, fun d hd => ?_, hp⟩
      rcases hd with hd | rfl
      · exact e2 d hd
      · exact SmI.mk (by omega) (by omega)
    · rintro acc st' ⟨e1, e2, hp⟩
      rw [rgD_len] at e1 hp
      simp [restL, keepV]
      refine fComp_ok ?_
      simp
      refine ⟨fun j ac st' => ac.length = j ∧ j ≤ 3 ∧ (∀ d ∈ ac, SmI d) ∧ PU p st' (k + 190 - j), ⟨rfl, by omega, by simp, hp.mono (by omega)⟩, ?_, ?_⟩
      · rintro j ac st' x hx ⟨e3, e4, e5, hp⟩
        have hj := (List.getElem?_eq_some_iff.mp hx).1
        have hxt := (e2 x (List.mem_of_getElem? hx)).facts.2.2.2.2
        simp [wipeL, hxt]
        refine take_ok (k := k + 189 - j) (hp.mono (by omega)) (by decide) (by decide) fun i1 st4 d0 d1 hp => ?_
        simp
        refine ⟨by omega, e3, by omega, fun d hd => ?_, hp⟩
        rcases hd with hd | rfl
        · exact e5 d hd
        · exact SmI.mk (by omega) (by omega)
      · rintro ac st' ⟨e3, e4, e5, hp⟩
        simp [restL, keepV, ht]
        refine take_ok (k := k + 180) (hp.mono (by omega)) (by decide) (by decide) fun i2 st4 d0 d1 hp => ?_
        simp
        refine take_ok hp (by decide) (by decide) fun i3 st5 f0 f1 hp => ?_
        refine ix_in f0 f1 fun v hv => ?_
        have hv' : v = .non ∨ IntT 1 20 v := by
          simp at hv
          rcases hv with rfl | rfl
          · exact .inl rfl
          · exact .inr ⟨ac, rfl, by omega, by omega, e5⟩
        have hvt : isTmp v = false := by
          simp at hv
          rcases hv with rfl | rfl <;> rfl
        simp [ht, hvt]
        exact q _ _ (row_ruled hn hm ⟨[_], rfl, by simp, by simp, fun x hx => by simp at hx; rw [hx]; exact SmI.mk (by omega) (by omega)⟩ ⟨acc, rfl, by omega, by omega, e2⟩ hv') (hp.mono (by omega))
  rename_i w3
  split
  · simp [ht]
    exact q _ _ (row_fed hn hm) (hp.mono (by omega))
  · simp [ht]
    refine take_ok hp (by decide) (by decide) fun i1 st3 c0 c1 hp => ?_
    simp [ht]
    refine take_ok hp (by decide) (by decide) fun i2 st4 d0 d1 hp => ?_
    simp [ht]
    refine take_ok hp (by decide) (by decide) fun i3 st5 f0 f1 hp => ?_
    refine ix_in f0 f1 fun v hv => ?_
    have hv' : SmI v := by
      simp at hv
      rcases hv with rfl | rfl | rfl | rfl <;> exact SmI.mk (by decide) (by decide)
    simp [ht, hv'.facts.2.2.2.2]
    exact q _ _ (row_surd hn (SmI.mk (by omega) (by omega)) (SmI.mk (by omega) (by omega)) hv') (hp.mono (by omega))
theorem eight_ok {p k : Nat} {st : List MO} {Q : D → List MO → Prop} (hp : PU p st (k + 1)) (q : ∀ t st', twoD 4 t = true ∧ okD t = true ∧ wt t ≤ 20000 ∧ dep t ≤ 2 → PU p st' k → Q t st') : okF (f_eight [.obj p] st) Q := by
  unfold f_eight b_eight
  simp
  refine take_ok hp (by decide) (by decide) fun i0 st1 a0 a1 hp => ?_
  refine ix_in a0 a1 fun t ht => ?_
  have h2 : twoD 4 t = true ∧ okD t = true ∧ wt t ≤ 20000 ∧ dep t ≤ 2 := by
    simp at ht
    rcases ht with rfl | rfl | rfl | rfl | rfl | rfl <;> exact ⟨by decide, by decide, by decide, by decide⟩
  simp [okD_tmp h2.2.1]
  exact q t st1 h2 hp
theorem four_ok {p k : Nat} {st : List MO} {Q : D → List MO → Prop} (hp : PU p st (k + 10)) (q : ∀ t st', twoD 2 t = true ∧ okD t = true ∧ wt t ≤ 20000 ∧ dep t ≤ 2 → PU p st' k → Q t st') : okF (f_four [.obj p] st) Q := by
  unfold f_four b_four
  rw [okF_runB, okS_seq, okS_asg, okM_vL]
  refine fComp_ok ?_
  simp [rgOk]
  refine ⟨fun j acc st' => acc.length = j ∧ (∀ d ∈ acc, ∃ i : Int, d = .int i ∧ -10 ≤ i ∧ i ≤ 10) ∧ PU p st' (k + 10 - j), ⟨rfl, by simp, hp⟩, ?_, ?_⟩
  · rintro j acc st' x hx ⟨e1, e2, hp⟩
    obtain ⟨rfl, hj⟩ := rgD_get hx
    have hj' : j < 4 := by omega
    simp [wipeL]
    refine take_ok (k := k + 9 - j) (hp.mono (by omega)) (by decide) (by decide) fun i1 st4 d0 d1 hp => ?_
    simp
    refine ⟨by omega, e1, fun d hd => ?_, hp⟩
    rcases hd with hd | rfl
    · exact e2 d hd
    · exact ⟨_, rfl, by omega, by omega⟩
  · rintro acc st' ⟨e1, e2, hp⟩
    rw [rgD_len] at e1 hp
    match acc, e1 with
    | [a, b, c, d], _ =>
      obtain ⟨a, rfl, a0, a1⟩ := e2 a (by simp)
      obtain ⟨b, rfl, b0, b1⟩ := e2 b (by simp)
      obtain ⟨c, rfl, c0, c1⟩ := e2 c (by simp)
      obtain ⟨d, rfl, d0, d1⟩ := e2 d (by simp)
      have pair : ∀ {x y : Int}, -10 ≤ x → x ≤ 10 → -10 ≤ y → y ≤ 10 → IntT 2 2 (.tup [.int x, .int y]) := fun x0 x1 y0 y1 => ⟨_, rfl, by simp, by simp, fun z hz => by
        simp at hz
        rcases hz with rfl | rfl <;> exact SmI.mk (by omega) (by omega)⟩
      simp [restL, keepV]
      refine ⟨⟨sm (by omega), sm (by omega)⟩, ⟨sm (by omega), sm (by omega)⟩, ?_⟩
      split
      · exact q _ _ (two_of (pair (by decide) (by decide) (by decide) (by decide)) (pair (by decide) (by decide) (by decide) (by decide)) (by decide)) (hp.mono (by omega))
      · exact q _ _ (two_of (pair a0 a1 b0 b1) (pair c0 c1 d0 d1) (by decide)) (hp.mono (by omega))
end G_k74

set_option Elab.async false
set_option linter.all false
set_option maxRecDepth 100000
set_option maxHeartbeats 2000000
set_option exponentiation.threshold 20000
namespace G_k74
open FL PySem L2
/-- a name and its depth -/
def PrD (d : D) : Prop := ∃ nm i, d = .tup [nm, .int i] ∧ NmD nm ∧ 0 ≤ i ∧ i ≤ 1000
theorem PrD.tmp {d : D} (h : PrD d) : isTmp d = false := by
  obtain ⟨nm, i, rfl, _⟩ := h
  rfl
theorem machine_ok {p k : Nat} {nm : D} {ah : List D} {st : List MO} {Q : D → List MO → Prop} (hp : PU p st (k + 40)) (hn : NmD nm) (ha : 0 < ah.length) (ha2 : ah.length ≤ 12) (hah : ∀ d ∈ ah, ∃ nm i, d = .tup [nm, .int i] ∧ NmD nm ∧ 0 ≤ i ∧ i ≤ 500)
    (q : ∀ r i st', RowG r → 0 ≤ i → i ≤ 501 → PU p st' k → Q (.tup [r, .int i]) st') : okF (f_machine [.obj p, nm, .lst ah] st) Q := by
  have ht := okD_tmp hn.ok
  unfold f_machine b_machine
  simp [ht]
  refine take_ok hp (by omega) (by omega) fun i0 st1 a0 a1 hp => ?_
  refine ix_in a0 a1 fun d hd => ?_
  obtain ⟨n1, x1, rfl, hn1, x10, x11⟩ := hah d hd
  simp
  refine take_ok hp (by omega) (by omega) fun i1 st2 b0 b1 hp => ?_
  refine ix_in b0 b1 fun d2 hd2 => ?_
  obtain ⟨n2, x2, rfl, hn2, x20, x21⟩ := hah d2 hd2
  simp
  refine take_ok hp (by decide) (by decide) fun i2 st3 c0 c1 hp => ?_
  refine man_ix c0 c1 fun m hm => ?_
  simp
  refine take_ok hp (by decide) (by decide) fun i3 st4 d0 d1 hp => ?_
  simp
  refine take_ok hp (by decide) (by decide) fun i4 st5 e0 e1 hp => ?_
  refine ix_in e0 e1 fun mo hmo => ?_
  obtain ⟨mo, rfl, mo0, mo1⟩ : ∃ i : Int, mo = .int i ∧ 1 ≤ i ∧ i ≤ 64 := by
    simp at hmo
    rcases hmo with rfl | rfl | rfl | rfl <;> exact ⟨_, rfl, by omega, by omega⟩
  simp
  refine take_ok hp (by decide) (by decide) fun way st6 f0 f1 hp => ?_
  have t1 := okD_tmp hn1.ok
  have t2 := okD_tmp hn2.ok
  simp
  split
  · simp [ht, ixD, t1]
    exact q _ _ _ (row_root hn hn1 mo0 mo1) (by omega) (by omega) (hp.mono (by omega))
  rename_i w1
  split
  · simp [ht, ixD, t1, t2]
    refine eight_ok hp fun t st7 h8 hp => ?_
    have tt := okD_tmp h8.2.1
    simp [ht, t1, t2, tt]
    exact q _ _ _ (row_two hn hn1 hn2 hm mo0 mo1 h8) (by split <;> omega) (by split <;> omega) (hp.mono (by omega))
  · simp [ht, ixD, t1, t2]
    refine four_ok (k := k + 20) (hp.mono (by omega)) fun t st7 h8 hp => ?_
    have tt := okD_tmp h8.2.1
    simp [ht, t1, t2, tt]
    exact q _ _ _ (row_one hn hn1 hm mo0 mo1 h8) (by omega) (by omega) (hp.mono (by omega))
theorem size_ok {p k : Nat} {st : List MO} {Q : D → List MO → Prop} (hp : PU p st (k + 3)) (q : ∀ (n : Int) st', 0 ≤ n → n ≤ 12 → PU p st' k → Q (.int n) st') : okF (f_size [.obj p] st) Q := by
  unfold f_size b_size
  simp
  refine take_ok hp (by decide) (by decide) fun i0 st1 a0 a1 hp => ?_
  simp
  refine take_ok hp (by decide) (by decide) fun i1 st2 b0 b1 hp => ?_
  simp
  refine take_ok hp (by decide) (by decide) fun i2 st3 c0 c1 hp => ?_
  refine ix_in c0 c1 fun d hd => ?_
  obtain ⟨n, rfl, n0, n1⟩ : ∃ n : Int, d = .int n ∧ 0 ≤ n ∧ n ≤ 12 := by
    simp at hd
    rcases hd with rfl | rfl | rfl | rfl | rfl <;> exact ⟨_, rfl, by omega, by omega⟩
  simp
  exact q n st3 n0 n1 hp
def shal : D → Bool
  | .tup [_, .int i] => decide (i < 4)
  | _ => false
theorem plan_ok {p k : Nat} {n : Int} {st : List MO} {Q : D → List MO → Prop} (hp : PU p st (k + 5000)) (h0 : 0 ≤ n) (h1 : n ≤ 12) (q : ∀ rs st', (rs.length : Int) = n → (∀ r ∈ rs, RowG r) → PU p st' k → Q (.lst rs) st') : okF (f_plan [.obj p, .int n] st) Q := by
  unfold f_plan b_plan
  simp
  refine sFor_ok ?_
  simp
  refine names_ok (k := k + 4900) (hp.mono (by omega)) h0 h1 fun ns st1 n1 n2 hp => ?_
  simp
  refine ⟨fun j T => ∃ (rs ds : List D) (s2 s5 s6 s7 s8 : Sl) (st' : List MO), T = ⟨[.val (.obj p), .val (.int n), s2, .own (.lst rs), .own (.lst ds), s5, s6, s7, s8], st'⟩ ∧ rs.length = j ∧ ds.length = j ∧ (∀ r ∈ rs, RowG r) ∧ (∀ d ∈ ds, PrD d) ∧ PU p st' (k + 4900 - 300 * j),
    ⟨[], [], .emp, .emp, .emp, .emp, .emp, st1, rfl, rfl, rfl, by simp, by simp, hp⟩, ?_, ?_⟩
  · rintro j x T2 hx ⟨rs, ds, s2, s5, s6, s7, s8, st', rfl, e1, e2, e3, e4, hp⟩
    have hxn := n2 x (List.mem_of_getElem? hx)
    have hj : j < ns.length := (List.getElem?_eq_some_iff.mp hx).1
    have hj' : j < 12 := by omega
    have hxt := okD_tmp hxn.ok
    simp [hxt]
    refine fCompO_pure shal (fun d => d) ?_
    simp [wipeL, restL, keepV]
    refine ⟨by omega, fun d hd => ?_, ?_⟩
    · obtain ⟨nm, i, rfl, h1, h2, h3⟩ := e4 d hd
      simp [ixD, shal]
    · have hah : ∀ d ∈ ds.filter shal, ∃ nm i, d = .tup [nm, .int i] ∧ NmD nm ∧ 0 ≤ i ∧ i ≤ 500 := by
        intro d hd
        obtain ⟨h1, h2⟩ := List.mem_filter.mp hd
        obtain ⟨nm, i, rfl, h3, h4, h5⟩ := e4 d h1
        exact ⟨nm, i, rfl, h3, h4, by have h2 : decide (i < 4) = true := h2; have := of_decide_eq_true h2; omega⟩
      have hal : (ds.filter shal).length ≤ 12 := Nat.le_trans (List.length_filter_le _ _) (by omega)
      have hpos : ¬(∀ a ∈ ds, shal a = false) → 0 < (ds.filter shal).length := fun h => by
        rcases Nat.eq_zero_or_pos (ds.filter shal).length with z | z
        · refine absurd (fun a ha => ?_) h
          have := List.filter_eq_nil_iff.mp (List.eq_nil_of_length_eq_zero z) a ha
          simpa using this
        · exact z
      obtain ⟨ah, hahe⟩ : ∃ ah, ah = ds.filter shal := ⟨_, rfl⟩
      rw [← hahe] at hah hal hpos ⊢
      have step : ∀ (r pr : D) (s2 s5 s6 s7 s8 : Sl) (st5 : List MO), RowG r → PrD pr → PU p st5 (k + 4900 - 300 * (j + 1)) → ∃ (rs' ds' : List D) (t2 t5 t6 t7 t8 : Sl) (st' : List MO), ((s2 = t2 ∧ rs ++ [r] = rs' ∧ ds ++ [pr] = ds' ∧ s5 = t5 ∧ s6 = t6 ∧ s7 = t7 ∧ s8 = t8) ∧ st5 = st') ∧ rs'.length = j + 1 ∧ ds'.length = j + 1 ∧ (∀ r ∈ rs', RowG r) ∧ (∀ d ∈ ds', PrD d) ∧ PU p st' (k + 4900 - 300 * (j + 1)) := by
        intro r pr s2 s5 s6 s7 s8 st5 h1 h2 hp
        refine ⟨_, _, _, _, _, _, _, _, ⟨⟨rfl, rfl, rfl, rfl, rfl, rfl, rfl⟩, rfl⟩, by simp [e1], by simp [e2], fun r hr => ?_, fun d hd => ?_, hp⟩
        · rcases List.mem_append.mp hr with hr | hr
          · exact e3 r hr
          · simp at hr
            rw [hr]
            exact h1
        · rcases List.mem_append.mp hd with hd | hd
          · exact e4 d hd
          · simp at hd
            rw [hd]
            exact h2
      split
      · refine ⟨hxt, source_ok (k := k + 4900 - 300 * (j + 1)) (hp.mono (by omega)) hxn fun r st5 hr hp => ?_⟩
        exact ⟨⟨okD_tmp hr.ok, by omega⟩, hxt, by omega, step _ _ _ _ _ _ _ _ hr ⟨x, 0, rfl, hxn, by decide, by decide⟩ hp⟩
      · rename_i hne
        refine take_ok (k := k + 4899 - 300 * j) (hp.mono (by omega)) (by decide) (by decide) fun i0 st4 a0 a1 hp => ?_
        simp
        split
        · refine ⟨hxt, source_ok (k := k + 4900 - 300 * (j + 1)) (hp.mono (by omega)) hxn fun r st5 hr hp => ?_⟩
          exact ⟨⟨okD_tmp hr.ok, by omega⟩, hxt, by omega, step _ _ _ _ _ _ _ _ hr ⟨x, 0, rfl, hxn, by decide, by decide⟩ hp⟩
        · rw [okS_asg]
          simp [hxt]
          refine machine_ok (k := k + 4900 - 300 * (j + 1)) (hp.mono (by omega)) hxn (hpos hne) hal hah fun r i st5 hr i0 i1 hp => ?_
          simp [okD_tmp hr.ok, hxt]
          exact ⟨by omega, by omega, step _ _ _ _ _ _ _ _ hr ⟨x, i, rfl, hxn, by omega, by omega⟩ hp⟩
  · rintro T2 ⟨rs, ds, s2, s5, s6, s7, s8, st', rfl, e1, e2, e3, e4, hp⟩
    simp
    exact q rs st' (by omega) e3 (hp.mono (by omega))
end G_k74

set_option Elab.async false
set_option linter.all false
set_option maxRecDepth 100000
set_option maxHeartbeats 2000000
set_option exponentiation.threshold 20000
namespace G_k74
open FL PySem L2
def fw : Nat → Nat
  | 0 => 70000
  | n + 1 => 2 * fw n + 14000
/-- a thing within a plan, spoilt c times -/
structure ThR (c : Nat) (d : D) : Prop where
  ok : okD d = true
  w : wt d ≤ fw c
  dp : dep d ≤ 6
  ln : ∀ xs, d = .tup xs → xs.length ≤ 10 + c
theorem fw_le (c : Nat) : 70000 ≤ fw c := by
  induction c with
  | zero => exact Nat.le_refl _
  | succ n ih => show 70000 ≤ 2 * fw n + 14000; omega
theorem ThR.up {c : Nat} {d : D} (h : ThR c d) : ThR (c + 1) d := ⟨h.ok, by have := h.w; show wt d ≤ 2 * fw c + 14000; omega, h.dp, fun xs e => by have := h.ln xs e; omega⟩
theorem okDs_app : ∀ {a b : List D}, okDs (a ++ b) = (okDs a && okDs b)
  | [], b => by simp [okDs]
  | x :: a, b => by simp [okDs, okDs_app, Bool.and_assoc]
theorem wts_app : ∀ {a b : List D}, wts (a ++ b) = wts a + wts b
  | [], b => by simp [wts]
  | x :: a, b => by
    simp only [List.cons_append, wts, wts_app]
    omega
theorem deps_app : ∀ {a b : List D}, deps (a ++ b) = max (deps a) (deps b)
  | [], b => by simp [deps]
  | x :: a, b => by
    simp only [List.cons_append, deps, deps_app]
    omega
/-- a list of things -/
structure Ls (n : Nat) (xs : List D) : Prop where
  ok : okDs xs = true
  w : wts xs ≤ n
  dp : deps xs ≤ 5
theorem Ls.app {n m : Nat} {a b : List D} (h : Ls n a) (k : Ls m b) : Ls (n + m) (a ++ b) := ⟨by rw [okDs_app, h.ok, k.ok]; rfl, by rw [wts_app]; exact Nat.add_le_add h.w k.w, by rw [deps_app]; exact Nat.max_le.mpr ⟨h.dp, k.dp⟩⟩
theorem Ls.take {n : Nat} {a : List D} (h : Ls n a) (i : Nat) : Ls n (a.take i) := by
  have e := List.take_append_drop i a
  have h1 := h.ok
  have h2 := h.w
  have h3 := h.dp
  rw [← e, okDs_app] at h1
  rw [← e, wts_app] at h2
  rw [← e, deps_app] at h3
  simp at h1
  exact ⟨h1.1, by omega, by omega⟩
theorem Ls.drop {n : Nat} {a : List D} (h : Ls n a) (i : Nat) : Ls n (a.drop i) := by
  have e := List.take_append_drop i a
  have h1 := h.ok
  have h2 := h.w
  have h3 := h.dp
  rw [← e, okDs_app] at h1
  rw [← e, wts_app] at h2
  rw [← e, deps_app] at h3
  simp at h1
  exact ⟨h1.2, by omega, by omega⟩
theorem split_le {a : List D} (i j : Nat) (h : i ≤ j) : wts (a.take i) + wts (a.drop j) ≤ wts a := by
  have e := List.take_append_drop i a
  have e2 : wts (a.drop j) ≤ wts (a.drop i) := by
    have : a.drop j = (a.drop i).drop (j - i) := by rw [List.drop_drop]; congr 1; omega
    rw [this]
    have e3 := List.take_append_drop (j - i) (a.drop i)
    have : wts (a.drop i) = wts ((a.drop i).take (j - i)) + wts ((a.drop i).drop (j - i)) := by rw [← wts_app, e3]
    omega
  have : wts a = wts (a.take i) + wts (a.drop i) := by rw [← wts_app, e]
  omega
theorem Ls.tup {n c : Nat} {a : List D} (h : Ls n a) (hw : n + 3 ≤ fw c) (hl : a.length ≤ 10 + c) (hc : c ≤ 10) : ThR c (.tup a) := by
  refine ⟨?_, ?_, ?_, fun xs e => ?_⟩
  · simp only [okD, h.ok, Bool.and_true, decide_eq_true_eq]
    omega
  · have := h.w
    simp only [wt]
    omega
  · have := h.dp
    simp only [dep]
    omega
  · cases e
    exact hl
theorem Ls.lst {n c : Nat} {a : List D} (h : Ls n a) (hw : n + 3 ≤ fw c) (hl : a.length ≤ 10 + c) (hc : c ≤ 10) : ThR c (.lst a) := by
  refine ⟨?_, ?_, ?_, fun xs e => by cases e⟩
  · simp only [okD, h.ok, Bool.and_true, decide_eq_true_eq]
    omega
  · have := h.w
    simp only [wt]
    omega
  · have := h.dp
    simp only [dep]
    omega
/-- a small thing -/
def Odd (d : D) : Prop := okD d = true ∧ wt d ≤ 13800 ∧ dep d ≤ 4 ∧ ∀ xs, d = .tup xs → xs.length ≤ 4
theorem cut_mid {α : Type} {xs : List α} {i : Int} (h0 : 0 ≤ i) (h1 : i < xs.length) : cutD xs (some i) (some (i + 1)) = (xs.drop i.toNat).take 1 := by
  have hn : ¬ i < 0 := by omega
  have hn2 : ¬ i + 1 < 0 := by omega
  have e : min i.toNat xs.length = i.toNat := by omega
  have e2 : min (i + 1).toNat xs.length = i.toNat + 1 := by omega
  simp only [cutD, slE, if_neg hn, if_neg hn2, e, e2]
  congr 1
  omega
theorem rg2_1_22 : rg2 (.int 1) (.int 22) = some (rgD 1 22) := by rfl
theorem odds_ok : ∀ d ∈ [D.non, D.bl true, D.int 7, D.str "", D.str "Floor", D.str "none", D.tup [], D.tup [D.int 1], D.lst [D.int 1, D.int 2], D.int 0, D.int 65, D.int 999999999999999999999999999999, D.dic [] [], D.str "sevenyz", D.tup [D.bl true],
    D.tup [D.int 1, D.non], D.tup [D.str "1"], D.tup [D.tup [D.int 1, D.int 2], D.tup [D.int 3, D.int 4]], D.tup [D.tup [D.int 1, D.int 2], D.tup [D.int 3]], D.tup (rgD 1 22), D.str "near", D.str "x"], okD d = true ∧ wt d ≤ 13800 ∧ dep d ≤ 4 := by
  decide +kernel
def tl4 : D → Bool
  | .tup ys => decide (ys.length ≤ 4) && decide (deps ys ≤ 4)
  | _ => true
theorem tl4_of {ys : List D} (h : tl4 (.tup ys) = true) : ys.length ≤ 4 ∧ deps ys ≤ 4 := by simpa [tl4] using h
theorem misc_ok : ∀ d ∈ [D.non, D.int 7, D.str "row", D.tup [], D.lst [], D.dic [] [], D.tup [D.str "row"]], okD d = true ∧ wt d ≤ 13800 ∧ dep d ≤ 4 ∧ tl4 d = true := by
  decide +kernel
theorem words_ok : ∀ d ∈ [D.str "row", D.str "ruled", D.str "fed", D.str "surd", D.str "one", D.str "two", D.str "root", D.str "Row", D.str "load", D.str ""], okD d = true ∧ wt d ≤ 13800 ∧ dep d ≤ 4 := by
  decide +kernel
theorem Ls.one {n : Nat} {d : D} (h : okD d = true) (hw : wt d + 2 ≤ n) (hd : dep d ≤ 5) : Ls n [d] := ⟨by simp [okDs, h], by simp only [wts]; omega, by simp only [deps]; omega⟩
theorem spoilt_row_ok {p k c : Nat} {xs : List D} {st : List MO} {Q : D → List MO → Prop} (hp : PU p st (k + 3)) (hx : ThR c (.tup xs)) (hx5 : deps xs ≤ 5) (hne : 0 < xs.length) (hc : c ≤ 5) (q : ∀ r st', ThR (c + 1) r → (∀ ys, r = .tup ys → deps ys ≤ 5) → PU p st' k → Q r st') : okF (f_spoilt_row [.obj p, .tup xs] st) Q := by
  have hL : Ls (wts xs) xs := ⟨(tup_len hx.ok).2, Nat.le_refl _, hx5⟩
  have hxw : wts xs + 3 ≤ fw c := by have := hx.w; simp only [wt] at this; omega
  have hxl := hx.ln xs rfl
  have hf : fw (c + 1) = 2 * fw c + 14000 := rfl
  have hf0 := fw_le c
  unfold f_spoilt_row b_spoilt_row
  simp
  refine take_ok hp (by decide) (by decide) fun way st1 a0 a1 hp => ?_
  simp
  refine take_ok hp (by omega) (by omega) fun at_ st2 b0 b1 hp => ?_
  have hb1 : at_ ≤ xs.length := by omega
  have hb2 : at_ + 1 ≤ xs.length := by omega
  have tl : (xs.take at_.toNat).length ≤ 10 + c := by rw [List.length_take]; omega
  have el : (xs.take at_.toNat).length + (xs.drop (at_ + 1).toNat).length + 1 = xs.length := by
    rw [List.length_take, List.length_drop]
    omega
  have sw := split_le (a := xs) at_.toNat (at_ + 1).toNat (by omega)
  have LA : Ls (wts (xs.take at_.toNat)) (xs.take at_.toNat) := ⟨(hL.take _).ok, Nat.le_refl _, (hL.take _).dp⟩
  have LB : Ls (wts (xs.drop (at_ + 1).toNat)) (xs.drop (at_ + 1).toNat) := ⟨(hL.drop _).ok, Nat.le_refl _, (hL.drop _).dp⟩
  have same : Q (.tup xs) st2 := q _ _ hx.up (fun ys e => by cases e; exact hx5) (hp.mono (by omega))
  simp [cut_lo b0 hb1, cut_hi (show 0 ≤ at_ + 1 by omega) hb2, cut_mid b0 b1, cut_hi b0 hb1]
  split
  · rw [rg2_1_22]
    simp [cut_lo b0 hb1, cut_hi (show 0 ≤ at_ + 1 by omega) hb2]
    refine take_ok hp (by decide) (by decide) fun i st3 c0 c1 hp => ?_
    refine ix_in c0 c1 fun d hd => ?_
    obtain ⟨d1, d2, d3⟩ := odds_ok d hd
    simp [okD_tmp d1]
    have L : Ls _ (xs.take at_.toNat ++ ([d] ++ xs.drop (at_ + 1).toNat)) := LA.app ((Ls.one (n := 13802) d1 (by omega) (by omega)).app LB)
    refine ⟨by omega, by omega, q _ _ (L.tup (by omega) ?_ (by omega)) (fun ys e => by cases e; exact L.dp) hp⟩
    rw [List.length_append, List.length_append, List.length_singleton]
    omega
  split
  · have L := LA.app LB
    refine ⟨by omega, q _ _ (L.tup (by omega) ?_ (by omega)) (fun ys e => by cases e; exact L.dp) (hp.mono (by omega))⟩
    rw [List.length_append]
    omega
  split
  · have L := (hL.take at_.toNat).app (((hL.drop at_.toNat).take 1).app (hL.drop at_.toNat))
    have s1 := split_le (a := xs) at_.toNat at_.toNat (Nat.le_refl _)
    have s2 : wts ((xs.drop at_.toNat).take 1) ≤ wts (xs.drop at_.toNat) := ((show Ls _ (xs.drop at_.toNat) from ⟨(hL.drop _).ok, Nat.le_refl _, (hL.drop _).dp⟩).take 1).w
    have L2 : Ls (2 * wts xs) (xs.take at_.toNat ++ ((xs.drop at_.toNat).take 1 ++ xs.drop at_.toNat)) := ⟨L.ok, by rw [wts_app, wts_app]; omega, L.dp⟩
    refine ⟨by omega, by omega, q _ _ (L2.tup (by omega) ?_ (by omega)) (fun ys e => by cases e; exact L2.dp) (hp.mono (by omega))⟩
    rw [List.length_append, List.length_append, List.length_take, List.length_take, List.length_drop]
    omega
  split
  · exact q _ _ (hL.lst (by omega) (by omega) (by omega)) (fun ys e => by cases e) (hp.mono (by omega))
  split
  · refine take_ok hp (by decide) (by decide) fun i st3 c0 c1 hp => ?_
    refine ix_in c0 c1 fun d hd => ?_
    obtain ⟨d1, d2, d3, d4⟩ := misc_ok d hd
    refine ⟨okD_tmp d1, q _ _ ⟨d1, by omega, by omega, fun ys e => by subst e; exact Nat.le_trans (tl4_of d4).1 (by omega)⟩ (fun ys e => by subst e; exact Nat.le_trans (tl4_of d4).2 (by decide)) hp⟩
  split
  · refine take_ok hp (by decide) (by decide) fun i st3 c0 c1 hp => ?_
    refine ix_in c0 c1 fun d hd => ?_
    obtain ⟨d1, d2, d3⟩ := words_ok d hd
    rw [cut_hi (xs := xs) (i := 1) (by decide) (by omega)]
    have L := (Ls.one (n := 13802) d1 (by omega) (by omega)).app (hL.drop 1)
    have ll : (xs.drop 1).length ≤ 10 + c := by rw [List.length_drop]; omega
    refine ⟨okD_tmp d1, by rw [show (1 : Int).toNat = 1 from rfl]; omega, q _ _ (L.tup (by omega) (by rw [List.length_append, List.length_singleton]; omega) (by omega)) (fun ys e => by cases e; exact L.dp) hp⟩
  · exact same
end G_k74

set_option Elab.async false
set_option linter.all false
set_option maxRecDepth 100000
set_option maxHeartbeats 2000000
set_option exponentiation.threshold 20000
namespace G_k74
open FL PySem L2
def full : D → Bool
  | .tup (_ :: _) => true
  | _ => false
def maySp : D → Bool
  | .lst rs => rs.all full
  | _ => false
theorem may_eq {d : D} {st : List MO} (h : okD d = true) : f_may_spoil [d] st = .ok (.bl (maySp d)) st := okF_eq (by
  unfold f_may_spoil b_may_spoil
  cases d <;> simp [isi h, isLst, maySp]
  rename_i xs
  obtain ⟨hl, hx⟩ := lst_len h
  refine fComp_pure (fun x => !full x) (fun x => x) ?_
  simp [wipeL, restL, keepV]
  refine ⟨by omega, fun x hx' => ?_, ?_⟩
  · have hk := okDs_mem hx x hx'
    simp [okD_tmp hk, isi hk]
    cases x <;> simp [isTup, full] <;> first | (simp [okD] at hk; done) | skip
    rename_i ys
    cases ys <;> simp
  · rw [empty_filter])
/-- a thing, spoilt c times -/
structure ThP (c : Nat) (d : D) : Prop where
  ok : okD d = true
  w : wt d ≤ 20 * fw c
  dp : dep d ≤ 8
  ls : ∀ rs, d = .lst rs → rs.length ≤ 12 + c ∧ ∀ r ∈ rs, ThR c r ∧ ∀ ys, r = .tup ys → deps ys ≤ 5
theorem ThP.up {c : Nat} {d : D} (h : ThP c d) : ThP (c + 1) d := ⟨h.ok, by have := h.w; show wt d ≤ 20 * (2 * fw c + 14000); omega, h.dp, fun rs e => ⟨by have := (h.ls rs e).1; omega, fun r hr => ⟨((h.ls rs e).2 r hr).1.up, ((h.ls rs e).2 r hr).2⟩⟩⟩
theorem ThP.of_rows {c : Nat} {rs : List D} (hl : rs.length ≤ 12 + c) (hc : c ≤ 5) (h : ∀ r ∈ rs, ThR c r ∧ ∀ ys, r = .tup ys → deps ys ≤ 5) : ThP c (.lst rs) := by
  refine ⟨?_, ?_, ?_, fun rs' e => by cases e; exact ⟨hl, h⟩⟩
  · simp only [okD, Bool.and_eq_true, decide_eq_true_eq]
    exact ⟨by omega, okDs_of fun d hd => (h d hd).1.ok⟩
  · have h1 := wts_le (n := fw c) (xs := rs) fun d hd => (h d hd).1.w
    have h2 : (fw c + 2) * rs.length ≤ (fw c + 2) * 17 := Nat.mul_le_mul_left _ (by omega)
    have h3 := fw_le c
    simp only [wt]
    omega
  · have := deps_le (n := 6) (xs := rs) fun d hd => (h d hd).1.dp
    simp only [dep]
    omega
theorem odd2_ok : ∀ d ∈ [D.non, D.int 7, D.str "", D.str "row a floor 1", D.dic [] [], D.tup [D.str "row", D.str "a", D.str "floor", D.tup [D.int 1]], D.bl true], okD d = true ∧ wt d ≤ 13800 ∧ dep d ≤ 4 ∧ isLst d = false := by
  decide +kernel
theorem spoilt_ok {p k c : Nat} {rs : List D} {st : List MO} {Q : D → List MO → Prop} (hp : PU p st (k + 10)) (h : ThP c (.lst rs)) (hm : maySp (.lst rs) = true) (hc : c ≤ 4) (q : ∀ d st', ThP (c + 1) d → PU p st' k → Q d st') : okF (f_spoilt [.obj p, .lst rs] st) Q := by
  obtain ⟨hl, hr⟩ := h.ls rs rfl
  have hf : fw (c + 1) = 2 * fw c + 14000 := rfl
  have hf0 := fw_le c
  unfold f_spoilt b_spoilt
  simp
  refine take_ok hp (by decide) (by decide) fun way st1 a0 a1 hp => ?_
  simp
  refine take_ok hp (by split <;> omega) (by split <;> omega) fun at_ st2 b0 b1 hp => ?_
  simp
  have same : Q (.lst rs) st2 := q _ _ h.up (hp.mono (by omega))
  have rows : ∀ (rs' : List D) (st' : List MO), rs'.length ≤ 12 + (c + 1) → (∀ r ∈ rs', r ∈ rs ∨ (ThR (c + 1) r ∧ ∀ ys, r = .tup ys → deps ys ≤ 5)) → PU p st' k → Q (.lst rs') st' := fun rs' st' h1 h2 hp => q _ _ (ThP.of_rows h1 (by omega) fun r hr' => (h2 r hr').elim (fun z => ⟨(hr r z).1.up, (hr r z).2⟩) id) hp
  split
  · split
    · rw [if_neg (by omega), if_neg (by omega), if_neg (by omega)]
      exact same
    · rename_i hne
      have hlen : 0 < rs.length := List.length_pos_iff.mpr hne
      have hb1 : at_ < rs.length := by
        split at b1 <;> omega
      refine ix_in b0 hb1 fun r hrm => ?_
      obtain ⟨h1, h2⟩ := hr r hrm
      have hfull : full r = true := List.all_eq_true.mp hm r hrm
      match r, hfull with
      | .tup (y :: ys), _ =>
        refine ⟨rfl, spoilt_row_ok (k := k + 5) (hp.mono (by omega)) h1 (h2 _ rfl) (by simp) (by omega) fun r' st3 g1 g2 hp => ?_⟩
        rw [cut_lo b0 (by omega), cut_hi (by omega) (by omega)]
        refine ⟨okD_tmp g1.ok, by rw [List.length_take]; omega, by rw [List.length_take, List.length_drop]; omega, rows _ _ ?_ (fun r hr' => ?_) (hp.mono (by omega))⟩
        · rw [List.length_append, List.length_cons, List.length_take, List.length_drop]
          omega
        · rcases List.mem_append.mp hr' with z | z
          · exact .inl (List.mem_of_mem_take z)
          · rcases List.mem_cons.mp z with rfl | z
            · exact .inr ⟨g1, g2⟩
            · exact .inl (List.mem_of_mem_drop z)
  split
  · have hl1 : (cutD rs (some at_) (some (at_ + 1))).length ≤ 1 := by
      by_cases hb : at_ < rs.length
      · rw [cut_mid b0 hb, List.length_take]
        omega
      · unfold cutD
        rw [List.length_take, List.length_drop]
        unfold slE
        simp only []
        rw [if_neg (by omega), if_neg (by omega)]
        omega
    refine ⟨by omega, rows _ _ (by rw [List.length_append]; omega) (fun r hr' => ?_) (hp.mono (by omega))⟩
    rcases List.mem_append.mp hr' with z | z
    · exact .inl z
    · exact .inl (cut_mem z)
  split
  · refine take_ok (k := k + 7) (hp.mono (by omega)) (by decide) (by decide) fun i st3 c0 c1 hp => ?_
    refine ix_in c0 c1 fun d hd => ?_
    by_cases hd2 : d = .lst [.lst []]
    · subst hd2
      refine ⟨rfl, rows _ _ (by simp; omega) (fun r hr' => ?_) (hp.mono (by omega))⟩
      simp at hr'
      subst hr'
      exact .inr ⟨⟨by decide, by have : wt (.lst []) = 3 := by decide
                                 omega, by decide, fun xs e => by cases e⟩, fun ys e => by cases e⟩
    · obtain ⟨d1, d2, d3, d4⟩ := odd2_ok d (by simp at hd ⊢; rcases hd with h | h | h | h | h | h | h | h <;> simp [h] <;> exact absurd h hd2)
      exact ⟨okD_tmp d1, q _ _ ⟨d1, by omega, by omega, fun rs' e => by subst e; cases d4⟩ (hp.mono (by omega))⟩
  split
  · exact rows _ _ (by simp; omega) (fun r hr' => .inl (by simpa using hr')) (hp.mono (by omega))
  · exact same
end G_k74

set_option Elab.async false
set_option linter.all false
set_option maxRecDepth 100000
set_option maxHeartbeats 2000000
set_option exponentiation.threshold 20000
namespace G_k74
open FL PySem L2
mutual
theorem toR_ok : ∀ d : D, okD d = true → ∃ p, toR d = some p ∧ p.showable = true ∧ p.shown.length ≤ wt d ∧ p.depth ≤ dep d
  | .non, _ => ⟨_, rfl, rfl, by decide, by decide⟩
  | .bl b, _ => ⟨_, rfl, rfl, by cases b <;> decide, by simp [PyData.depth]⟩
  | .int i, h => by
    have h : i.natAbs < 2 ^ 1900 := by simpa [okD] using h
    refine ⟨_, rfl, ?_, ?_, by simp [PyData.depth]⟩
    · simp only [PyData.showable, decide_eq_true_eq]
      by_cases h0 : i.natAbs = 0
      · rw [h0]
        decide
      · exact Nat.lt_trans ((Nat.log2_lt h0).mpr h) (by decide)
    · have h2 : i.natAbs < 10 ^ 600 := Nat.lt_of_lt_of_le h (by decide)
      have := int_text_length_le10 (k := 600) (by decide) h2
      show (Str.ofString (toString i)).length ≤ 620
      rw [ofString_length]
      omega
  | .str s, h => by
    have h : okS s = true := by simpa [okD] using h
    refine ⟨_, rfl, rfl, ?_, by simp [PyData.depth]⟩
    unfold okS at h
    rw [Bool.and_eq_true, List.all_eq_true] at h
    have := StrLaws.reprText_len s fun c hc => Nat.lt_trans (of_decide_eq_true (h.2 c hc)) (by decide)
    simp only [PyData.shown, wt]
    omega
  | .tup xs, h => by
    obtain ⟨h1, h2⟩ := tup_len h
    obtain ⟨ps, e, g1, g2, g3, g4⟩ := toRs_ok xs h2
    refine ⟨.tuple ps, by simp only [toR, e, Option.map_some], by simpa only [PyData.showable] using g1, ?_, ?_⟩
    · have := tupleText_len_le (PyData.shownAll ps)
      simp only [PyData.shown, wt]
      rw [g4] at this
      omega
    · simp only [PyData.depth, dep]
      omega
  | .lst xs, h => by
    obtain ⟨h1, h2⟩ := lst_len h
    obtain ⟨ps, e, g1, g2, g3, g4⟩ := toRs_ok xs h2
    refine ⟨.list ps, by simp only [toR, e, Option.map_some], by simpa only [PyData.showable] using g1, ?_, ?_⟩
    · have := listText_len_le (PyData.shownAll ps)
      simp only [PyData.shown, wt]
      rw [g4] at this
      omega
    · simp only [PyData.depth, dep]
      omega
  | .dic [] [], _ => ⟨_, rfl, rfl, by decide, by decide⟩
  | .dic (_ :: _) _, h => by simp [okD] at h
  | .dic [] (_ :: _), h => by simp [okD] at h
  | .scr _, h => by simp [okD] at h
  | .obj _, h => by simp [okD] at h
  | .own _, h => by simp [okD] at h
  | .ty _, h => by simp [okD] at h
  | .gl _, h => by simp [okD] at h
theorem toRs_ok : ∀ ds : List D, okDs ds = true → ∃ ps, toRs ds = some ps ∧ PyData.showableAll ps = true ∧ ((PyData.shownAll ps).map (·.length)).sum + 2 * ps.length ≤ wts ds ∧ PyData.depthAll ps ≤ deps ds ∧ (PyData.shownAll ps).length = ps.length
  | [], _ => ⟨[], rfl, rfl, by simp [PyData.shownAll, wts], by simp [PyData.depthAll], rfl⟩
  | d :: ds, h => by
    simp only [okDs, Bool.and_eq_true] at h
    obtain ⟨p, e, g1, g2, g3⟩ := toR_ok d h.1
    obtain ⟨ps, e2, f1, f2, f3, f4⟩ := toRs_ok ds h.2
    refine ⟨p :: ps, by simp only [toRs, e, e2, Option.bind_some, Option.map_some], by simp only [PyData.showableAll, g1, f1, Bool.and_self], ?_, ?_, by simp [PyData.shownAll, f4]⟩
    · simp only [PyData.shownAll, List.map_cons, List.sum_cons, List.length_cons, wts]
      omega
    · simp only [PyData.depthAll, deps]
      omega
end
/-- what a thing shows -/
def rp (d : D) : Str := match toR d with
  | some p => p.shown
  | none => ""
theorem repr_ok {T : MT} {d : D} {P : D → Prop} (h : okD d = true) (hw : wt d ≤ 16000000) (hd : dep d ≤ 60) : okO (biRepr T [d]) P ↔ P (.str (rp d)) := by
  obtain ⟨p, e, g1, g2, g3⟩ := toR_ok d h
  have hs : shows p = true := by
    unfold shows
    have : (16000000 : Nat) ≤ sizeLine := by rw [sizeLine_eq]; decide
    simp only [g1, Bool.true_and, Bool.and_eq_true, decide_eq_true_eq]
    exact ⟨by omega, by omega⟩
  have e2 : toRT T d = some p := by
    unfold toRT
    cases d <;> first | exact e | (simp [okD] at h; done)
  unfold biRepr rp
  simp only [e2, e, Option.bind_some, hs, if_true, okO_some]
theorem fw2 : 20 * fw 2 ≤ 16000000 := by decide
theorem ThP.rp {c : Nat} {d : D} (h : ThP c d) (hc : c ≤ 2) {T : MT} {P : D → Prop} : okO (biRepr T [d]) P ↔ P (.str (G_k74.rp d)) := by
  refine repr_ok h.ok ?_ (by have := h.dp; omega)
  have := h.w
  have f2 := fw2
  have : fw c ≤ fw 2 := by
    match c, hc with
    | 0, _ => decide
    | 1, _ => decide
    | 2, _ => decide
  omega
theorem repr_bl {T : MT} {b : Bool} {P : D → Prop} : okO (biRepr T [.bl b]) P ↔ P (.str (rp (.bl b))) := repr_ok rfl (by simp [wt]) (by simp [dep])
theorem rp_bl {a b : Bool} : (rp (.bl a) == rp (.bl b)) = (a == b) := by cases a <;> cases b <;> decide
end G_k74

set_option Elab.async false
set_option linter.all false
set_option maxRecDepth 100000
set_option maxHeartbeats 2000000
set_option exponentiation.threshold 20000
namespace G_k74
open FL PySem L2
theorem okF_ex {o : FO} {x : D} (h : okF o fun d _ => d = x) : ∃ st, o = .ok x st := by
  cases o with
  | ok d s => exact ⟨s, by rw [show d = x from h]⟩
  | _ => exact h.elim
@[simp] theorem okO_isNotB {T : MT} {a b : Bool} {P : Bool → Prop} : okO (opIsNot T (.bl a) (.bl b)) P ↔ P (!(a == b)) := Iff.rfl
theorem plan_thp {rs : List D} (hl : (rs.length : Int) ≤ 12) (h : ∀ r ∈ rs, RowG r) : ThP 0 (.lst rs) ∧ planOk (.lst rs) = true := by
  refine ⟨ThP.of_rows (by omega) (by decide) fun r hr => ?_, ?_⟩
  · have g := h r hr
    obtain ⟨k, ys, rfl⟩ := g.tup
    refine ⟨⟨g.ok, g.w, by have := g.dp; omega, fun xs e => ?_⟩, fun xs e => ?_⟩
    · have hg := g.good
      cases e
      show (D.str k :: ys).length ≤ 10
      have hg : rowD k ys = true := hg
      unfold rowD at hg
      repeat' (split at hg)
      all_goals first
        | (simp; done)
        | (cases hg; done)
    · cases e
      have := g.dp
      simp only [dep] at this
      omega
  · simp only [planOk, Bool.and_eq_true, decide_eq_true_eq, List.all_eq_true]
    exact ⟨hl, fun r hr => (h r hr).good⟩
theorem law_math (ns : List Int) (hn : ns.length ≤ 63) : ∃ st, f_law [.scr ns] [] = .ok (.bl true) st := okF_ex (by
  unfold f_law b_law
  simp
  refine sFor_ok ?_
  simp [rgOk]
  refine ⟨by split <;> split <;> omega, fun j T => ∃ (s1 s2 s3 s4 s5 s6 s7 s8 : Sl) (st' : List MO), T = ⟨[.val (.scr ns), s1, s2, s3, s4, s5, s6, s7, s8], st'⟩, ⟨_, _, _, _, _, _, _, _, _, rfl⟩, ?_⟩
  · rintro j x T2 hx ⟨s1, s2, s3, s4, s5, s6, s7, s8, st', rfl⟩
    obtain ⟨rfl, hj⟩ := rgD_get hx
    have hj' : j < 100 := by
      refine Nat.lt_of_lt_of_le hj ?_
      split <;> split <;> omega
    simp
    refine cell_ok (by omega) fun cn => ?_
    simp
    refine purse_ok fun p st1 hp => ?_
    simp
    refine size_ok (k := 999990) (hp.mono (by omega)) fun n st2 n0 n1 hp => ?_
    simp
    refine plan_ok (k := 900000) (hp.mono (by omega)) n0 n1 fun rs st3 r1 r2 hp => ?_
    obtain ⟨hth, hgood⟩ := plan_thp (by omega) r2
    simp [is_plan_eq hth.ok, hgood]
    refine sFor_ok ?_
    simp [rgOk]
    refine ⟨fun s T => ∃ (s4 s5 s6 s7 s8 : Sl) (st' : List MO), T = ⟨[.val (.scr ns), .val (.int j), .val (.obj p), .val (.lst rs), s4, s5, s6, s7, s8], st'⟩ ∧ PU p st' (900000 - 100 * s), ⟨_, _, _, _, _, _, rfl, hp⟩, ?_, ?_⟩
    · rintro s x T2 hx ⟨s4, s5, s6, s7, s8, st', rfl, hp⟩
      obtain ⟨rfl, hs⟩ := rgD_get hx
      have hs' : s < 3 := hs
      simp
      refine sFor_ok ?_
      simp
      refine take_ok (k := 899999 - 100 * s) (hp.mono (by omega)) (by decide) (by decide) fun i0 st4 a0 a1 hp => ?_
      simp [rgOk]
      refine ⟨by omega, fun t T => ∃ (d : D) (s6 : Sl) (st' : List MO), T = ⟨[.val (.scr ns), .val (.int j), .val (.obj p), .val (.lst rs), .val (.int s), .val d, s6, s7, s8], st'⟩ ∧ ThP t d ∧ PU p st' (899999 - 100 * s - 10 * t), ⟨_, _, _, rfl, hth, hp⟩, ?_, ?_⟩
      · rintro t x T2 hx ⟨d, s6, st', rfl, hd, hp⟩
        obtain ⟨rfl, ht⟩ := rgD_get hx
        have ht' : t < 2 := by omega
        simp [may_eq hd.ok, okD_tmp hd.ok]
        split
        · rename_i hm
          match d, hm with
          | .lst ds, hm =>
            refine spoilt_ok (k := 899999 - 100 * s - 10 * (t + 1)) (hp.mono (by omega)) hd hm (by omega) fun d' st5 hd' hp => ?_
            simp [okD_tmp hd'.ok]
            exact ⟨d', _, _, ⟨⟨rfl, rfl⟩, rfl⟩, hd', hp⟩
        · exact ⟨d, _, _, ⟨⟨rfl, rfl⟩, rfl⟩, hd.up, hp.mono (by omega)⟩
      · rintro T2 ⟨d, s6, st', rfl, hd, hp⟩
        rw [rgD_len] at hd hp
        have hc : (1 + i0).toNat ≤ 2 := by omega
        have ht := okD_tmp hd.ok
        simp [hd.rp hc, plan_good_eq hd.ok, is_plan_eq hd.ok, ht, repr_bl, isi hd.ok]
        split
        · rename_i hm
          match d, hm, hd with
          | .lst ds, _, hd =>
            have hot : okD (.tup ds) = true := by
              have := hd.ok
              simpa only [okD] using this
            simp [is_plan_eq hot, repr_bl, rp_bl]
            exact ⟨rfl, _, _, _, _, _, _, ⟨⟨rfl, rfl, rfl, rfl, rfl⟩, rfl⟩, hp.mono (by omega)⟩
        · exact ⟨_, _, _, _, _, _, ⟨⟨rfl, rfl, rfl, rfl, rfl⟩, rfl⟩, hp.mono (by omega)⟩
    · rintro T2 ⟨s4, s5, s6, s7, s8, st', rfl, hp⟩
      simp [is_plan_eq hth.ok, hgood])
end G_k74

open PySem PySem.W PyProof.Rows
set_option maxHeartbeats 0 in
theorem PySem.Challenge.cw_termstream_k74_plans_by_form_holds : PySem.Challenge.rw_termstream_k74_plans_by_form.Holds := by
  w_on; o_law; k_head; (case hw => w_witness2)
  k_fill
  refine FL.walk_fl (l := PySem.Challenge.rw_termstream_k74_plans_by_form) (n := 63) (k := 10) (x := "_law_script") (mf := G_k74.f_law) rfl (by decide) rfl ⟨rfl, by decide, by decide⟩ (fun w h Y => PySem.W.kIn_of Y) (by decide +kernel) ?F G_k74.law_math
  case F =>
    intro w mg fa h KX G hmg
    refine' G_k74.all_mk KX G hmg ?a0 ?l0 ?c0 ?k0 ?a1 ?l1 ?c1 ?k1 ?a2 ?l2 ?c2 ?k2 ?a3 ?l3 ?c3 ?k3 ?a4 ?l4 ?c4 ?k4 ?a5 ?l5 ?c5 ?k5 ?a6 ?l6 ?c6 ?k6 ?a7 ?l7 ?c7 ?k7 ?a8 ?l8 ?c8 ?k8 ?a9 ?l9 ?c9 ?k9 ?a10 ?l10 ?c10 ?k10 ?a11 ?l11 ?c11 ?k11 ?a12 ?l12 ?c12 ?k12 ?a13 ?l13 ?c13 ?k13 ?a14 ?l14 ?c14 ?k14 ?a15 ?l15 ?c15 ?k15 ?a16 ?l16 ?c16 ?k16 ?a17 ?l17 ?c17 ?k17 ?a18 ?l18 ?c18 ?k18 ?a19 ?l19 ?c19 ?k19 ?a20 ?l20 ?c20 ?k20 ?a21 ?l21 ?c21 ?k21 ?a22 ?l22 ?c22 ?k22 ?a23 ?l23 ?c23 ?k23 ?a24 ?l24 ?c24 ?k24 ?a25 ?l25 ?c25 ?k25 ?a26 ?l26 ?c26 ?k26 ?a27 ?l27 ?c27 ?k27 ?a28 ?l28 ?c28 ?k28 ?a29 ?l29 ?c29 ?k29 ?a30 ?l30 ?c30 ?k30 ?a31 ?l31 ?c31 ?k31 ?a32 ?l32 ?c32 ?k32 ?a33 ?l33 ?c33 ?k33 ?a34 ?l34 ?c34 ?k34 ?a35 ?l35 ?c35 ?k35 ?a36 ?l36 ?c36 ?k36 ?a37 ?l37 ?c37 ?k37 ?a38 ?l38 ?c38 ?k38 ?a39 ?l39 ?c39 ?k39 ?a40 ?l40 ?c40 ?k40 ?z_all ?z_bool ?z_int ?z_isinstance ?z_len ?z_list ?z_max ?z_min ?z_range ?z_repr ?z_str ?z_tuple ?z_zip ?x_FITS ?ld_FITS ?hd_FITS ?nd_FITS ?y_FITS_0 ?y_FITS_1 ?y_FITS_2 ?y_FITS_3 ?y_FITS_4 ?y_FITS_5 ?y_FITS_6 ?y_FITS_7 ?y_FITS_8 ?x_GREATEST ?x_LETTERS ?x_LONGEST ?x_MANNERS ?lt_MANNERS ?vt_MANNERS ?x_MOST_MOST ?x_MOST_ROUND ?x_MOST_ROWS ?x_MOST_TERMS ?x_SHAPES ?ld_SHAPES ?hd_SHAPES ?nd_SHAPES ?y_SHAPES_0 ?lt_SHAPES0 ?vt_SHAPES0 ?y_SHAPES_1 ?lt_SHAPES1 ?vt_SHAPES1 ?y_SHAPES_2 ?lt_SHAPES2 ?vt_SHAPES2 ?y_SHAPES_3 ?lt_SHAPES3 ?vt_SHAPES3 ?y_SHAPES_4 ?lt_SHAPES4 ?vt_SHAPES4 ?y_SHAPES_5 ?lt_SHAPES5 ?vt_SHAPES5 ?y_SHAPES_6 ?lt_SHAPES6 ?vt_SHAPES6
    (case a0 => k_is)
    (case l0 => k_is)
    (case c0 => k_is)
    (case k0 => k_is)
    (case a1 => k_is)
    (case l1 => k_is)
    (case c1 => k_is)
    (case k1 => k_is)
    (case a2 => k_is)
    (case l2 => k_is)
    (case c2 => k_is)
    (case k2 => k_is)
    (case a3 => k_is)
    (case l3 => k_is)
    (case c3 => k_is)
    (case k3 => k_is)
    (case a4 => k_is)
    (case l4 => k_is)
    (case c4 => k_is)
    (case k4 => k_is)
    (case a5 => k_is)
    (case l5 => k_is)
    (case c5 => k_is)
    (case k5 => k_is)
    (case a6 => k_is)
    (case l6 => k_is)
    (case c6 => k_is)
    (case k6 => k_is)
    (case a7 => k_is)
    (case l7 => k_is)
    (case c7 => k_is)
    (case k7 => k_is)
    (case a8 => k_is)
    (case l8 => k_is)
    (case c8 => k_is)
    (case k8 => k_is)
    (case a9 => k_is)
    (case l9 => k_is)
    (case c9 => k_is)
    (case k9 => k_is)
    (case a10 => k_is)
    (case l10 => k_is)
    (case c10 => k_is)
    (case k10 => k_is)
    (case a11 => k_is)
    (case l11 => k_is)
    (case c11 => k_is)
    (case k11 => k_is)
    (case a12 => k_is)
    (case l12 => k_is)
    (case c12 => k_is)
    (case k12 => k_is)
    (case a13 => k_is)
    (case l13 => k_is)
    (case c13 => k_is)
    (case k13 => k_is)
    (case a14 => k_is)
    (case l14 => k_is)
    (case c14 => k_is)
    (case k14 => k_is)
    (case a15 => k_is)
    (case l15 => k_is)
    (case c15 => k_is)
    (case k15 => k_is)
    (case a16 => k_is)
    (case l16 => k_is)
    (case c16 => k_is)
    (case k16 => k_is)
    (case a17 => k_is)
    (case l17 => k_is)
    (case c17 => k_is)
    (case k17 => k_is)
    (case a18 => k_is)
    (case l18 => k_is)
    (case c18 => k_is)
    (case k18 => k_is)
    (case a19 => k_is)
    (case l19 => k_is)
    (case c19 => k_is)
    (case k19 => k_is)
    (case a20 => k_is)
    (case l20 => k_is)
    (case c20 => k_is)
    (case k20 => k_is)
    (case a21 => k_is)
    (case l21 => k_is)
    (case c21 => k_is)
    (case k21 => k_is)
    (case a22 => k_is)
    (case l22 => k_is)
    (case c22 => k_is)
    (case k22 => k_is)
    (case a23 => k_is)
    (case l23 => k_is)
    (case c23 => k_is)
    (case k23 => k_is)
    (case a24 => k_is)
    (case l24 => k_is)
    (case c24 => k_is)
    (case k24 => k_is)
    (case a25 => k_is)
    (case l25 => k_is)
    (case c25 => k_is)
    (case k25 => k_is)
    (case a26 => k_is)
    (case l26 => k_is)
    (case c26 => k_is)
    (case k26 => k_is)
    (case a27 => k_is)
    (case l27 => k_is)
    (case c27 => k_is)
    (case k27 => k_is)
    (case a28 => k_is)
    (case l28 => k_is)
    (case c28 => k_is)
    (case k28 => k_is)
    (case a29 => k_is)
    (case l29 => k_is)
    (case c29 => k_is)
    (case k29 => k_is)
    (case a30 => k_is)
    (case l30 => k_is)
    (case c30 => k_is)
    (case k30 => k_is)
    (case a31 => k_is)
    (case l31 => k_is)
    (case c31 => k_is)
    (case k31 => k_is)
    (case a32 => k_is)
    (case l32 => k_is)
    (case c32 => k_is)
    (case k32 => k_is)
    (case a33 => k_is)
    (case l33 => k_is)
    (case c33 => k_is)
    (case k33 => k_is)
    (case a34 => k_is)
    (case l34 => k_is)
    (case c34 => k_is)
    (case k34 => k_is)
    (case a35 => k_is)
    (case l35 => k_is)
    (case c35 => k_is)
    (case k35 => k_is)
    (case a36 => k_is)
    (case l36 => k_is)
    (case c36 => k_is)
    (case k36 => k_is)
    (case a37 => k_is)
    (case l37 => k_is)
    (case c37 => k_is)
    (case k37 => k_is)
    (case a38 => k_is)
    (case l38 => k_is)
    (case c38 => k_is)
    (case k38 => k_is)
    (case a39 => k_is)
    (case l39 => k_is)
    (case c39 => k_is)
    (case k39 => k_is)
    (case a40 => k_is)
    (case l40 => k_is)
    (case c40 => k_is)
    (case k40 => k_is)
    (case z_all => k_is)
    (case z_bool => k_is)
    (case z_int => k_is)
    (case z_isinstance => k_is)
    (case z_len => k_is)
    (case z_list => k_is)
    (case z_max => k_is)
    (case z_min => k_is)
    (case z_range => k_is)
    (case z_repr => k_is)
    (case z_str => k_is)
    (case z_tuple => k_is)
    (case z_zip => k_is)
    (case x_FITS => k_is)
    (case ld_FITS => k_is)
    (case hd_FITS => rfl)
    (case nd_FITS => rfl)
    (case y_FITS_0 => k_is)
    (case y_FITS_1 => k_is)
    (case y_FITS_2 => k_is)
    (case y_FITS_3 => k_is)
    (case y_FITS_4 => k_is)
    (case y_FITS_5 => k_is)
    (case y_FITS_6 => k_is)
    (case y_FITS_7 => k_is)
    (case y_FITS_8 => k_is)
    (case x_GREATEST => k_is)
    (case x_LETTERS => k_is)
    (case x_LONGEST => k_is)
    (case x_MANNERS => k_is)
    (case lt_MANNERS => k_is)
    (case vt_MANNERS => exact (.cons ⟨_, rfl⟩ (.cons ⟨_, rfl⟩ (.cons ⟨_, rfl⟩ .nil))))
    (case x_MOST_MOST => k_is)
    (case x_MOST_ROUND => k_is)
    (case x_MOST_ROWS => k_is)
    (case x_MOST_TERMS => k_is)
    (case x_SHAPES => k_is)
    (case ld_SHAPES => k_is)
    (case hd_SHAPES => rfl)
    (case nd_SHAPES => rfl)
    (case y_SHAPES_0 => k_is)
    (case lt_SHAPES0 => k_is)
    (case vt_SHAPES0 => exact (.cons ⟨_, rfl⟩ (.cons ⟨_, rfl⟩ (.cons ⟨_, rfl⟩ .nil))))
    (case y_SHAPES_1 => k_is)
    (case lt_SHAPES1 => k_is)
    (case vt_SHAPES1 => exact (.cons ⟨_, rfl⟩ (.cons ⟨_, rfl⟩ (.cons ⟨_, rfl⟩ (.cons ⟨_, rfl⟩ (.cons ⟨_, rfl⟩ .nil))))))
    (case y_SHAPES_2 => k_is)
    (case lt_SHAPES2 => k_is)
    (case vt_SHAPES2 => exact (.cons ⟨_, rfl⟩ (.cons ⟨_, rfl⟩ .nil)))
    (case y_SHAPES_3 => k_is)
    (case lt_SHAPES3 => k_is)
    (case vt_SHAPES3 => exact (.cons ⟨_, rfl⟩ (.cons ⟨_, rfl⟩ (.cons ⟨_, rfl⟩ (.cons ⟨_, rfl⟩ .nil)))))
    (case y_SHAPES_4 => k_is)
    (case lt_SHAPES4 => k_is)
    (case vt_SHAPES4 => exact (.cons ⟨_, rfl⟩ (.cons ⟨_, rfl⟩ (.cons ⟨_, rfl⟩ (.cons ⟨_, rfl⟩ (.cons ⟨_, rfl⟩ .nil))))))
    (case y_SHAPES_5 => k_is)
    (case lt_SHAPES5 => k_is)
    (case vt_SHAPES5 => exact (.cons ⟨_, rfl⟩ (.cons ⟨_, rfl⟩ (.cons ⟨_, rfl⟩ (.cons ⟨_, rfl⟩ (.cons ⟨_, rfl⟩ (.cons ⟨_, rfl⟩ .nil)))))))
    (case y_SHAPES_6 => k_is)
    (case lt_SHAPES6 => k_is)
    (case vt_SHAPES6 => exact (.cons ⟨_, rfl⟩ (.cons ⟨_, rfl⟩ (.cons ⟨_, rfl⟩ .nil))))

