import PyProof.Rows.All
import PyProof.EqLayable
import PyProof.StrBlockL
import KE.IntText
import HandS.ForMost
import HandS.ForExc
import HandS.Lambda
import HandS.Wide
import HandS.IsInst
import HandS.TupAny
import HandS.TupMul
import HandS.Rev
import HandS.Conv
import HandS.ExcInit
import HandS.ExcValue
import HandS.Deep
import HandS.ExcCtx
import HandS.Defaults
import PyProof.StrOps2
import PyProof.FitsStr
import PyProof.Rows.IntBool
import PyProof.CallStr
import HandS.Flow
import HandS.SortInts
import HandS.RaiseMore
import HandS.Style
import HandS.NoneIn
import HandS.Zip
import HandS.HotCalls
import HandS.ExcIs
import KE.GoesEnum
import HandS.SetBool
import PyProof.Rows.SetFrom
import PyProof.SetRoads
import HandS.CallLocal
import KE.KRevSl
import HandS.Property
import KE.DataMinMax
import KE.DataCmp
import HandS.HeadHook4
import HandS.HeadWalk
import HandS.HeadEnd
import KE.KExcSuper
import KE.KExcIs
import KE.KExcStr
import HandS.ExcField
import HandS.Codes
import PySem.Challenge.RW_metagain_k19_classes_of_errors
import HandS.Head0
import HandS.Head1
import HandS.Head2
set_option Elab.async false
set_option linter.all false
/-! The mirror's language: what the pieces of a def do to plain data; no machine here. -/
namespace Mi
open PySem
abbrev D := PyData
/-- what a name holds: plain data; a list (or an object) of one's own that may change; a def or a class of the text; an error that was caught, at that address; an error that nobody raised (its class, what it was made of), a list of such -/
inductive Xy where
  | msg (m : Str) | lim (d : D)
inductive W where
  | d (d : D) | m (k : Nat) | f (x : Str) | x (a : Nat) | e (c : Str) (y : Xy) | es (l : List (Str × Xy))
inductive Cell where
  | lst (l : List D) | ins (c : Str) (fs : List (Str × D))
abbrev Sto := List (Option Cell)
structure Exn where
  cls : Str
  arg : Option D := none
inductive R (α : Type) where
  | ok (a : α) (μ : Sto) | er (x : Exn) (μ : Sto) | no
def R.bind {α β : Type} (r : R α) (f : α → Sto → R β) : R β := match r with
  | .ok a μ => f a μ
  | .er x μ => .er x μ
  | .no => .no
@[simp] theorem R.bind_ok {α β : Type} (a : α) (μ : Sto) (f : α → Sto → R β) : (R.ok a μ).bind f = f a μ := rfl
@[simp] theorem R.bind_er {α β : Type} (x : Exn) (μ : Sto) (f : α → Sto → R β) : (R.er x μ : R α).bind f = .er x μ := rfl
@[simp] theorem R.bind_no {α β : Type} (f : α → Sto → R β) : (R.no : R α).bind f = .no := rfl
/-- an option as a result -/
def ofO {α : Type} (o : Option α) (μ : Sto) : R α := match o with
  | some a => .ok a μ
  | none => .no
@[simp] theorem ofO_some {α : Type} (a : α) (μ : Sto) : ofO (some a) μ = .ok a μ := rfl
@[simp] theorem ofO_none {α : Type} (μ : Sto) : ofO (none : Option α) μ = .no := rfl
abbrev Env := List (Option W)
abbrev EF := Env → Sto → R W
abbrev AF := Env → Sto → R (List W)
abbrev GF := List W → Sto → R W
inductive RS where
  | nx (ρ : Env) (μ : Sto) | rt (w : W) (μ : Sto) | bk (ρ : Env) (μ : Sto) | ct (ρ : Env) (μ : Sto) | er (x : Exn) (μ : Sto) | no
abbrev SF := Env → Sto → RS
def R.bindS {α : Type} (r : R α) (f : α → Sto → RS) : RS := match r with
  | .ok a μ => f a μ
  | .er x μ => .er x μ
  | .no => .no
@[simp] theorem R.bindS_ok {α : Type} (a : α) (μ : Sto) (f : α → Sto → RS) : (R.ok a μ).bindS f = f a μ := rfl
@[simp] theorem R.bindS_er {α : Type} (x : Exn) (μ : Sto) (f : α → Sto → RS) : (R.er x μ : R α).bindS f = .er x μ := rfl
@[simp] theorem R.bindS_no {α : Type} (f : α → Sto → RS) : (R.no : R α).bindS f = .no := rfl

/-- one's own list of that number -/
def mlist (μ : Sto) (k : Nat) : Option (List D) := match μ[k]? with
  | some (some (.lst l)) => some l
  | _ => none
/-- the data that a value shows now -/
def view (μ : Sto) : W → Option D
  | .d d => some d
  | .m k => (mlist μ k).map .list
  | .f _ => none
  | .x _ => none
  | .e _ _ => none
  | .es _ => none
@[simp] theorem view_d (μ : Sto) (d : D) : view μ (.d d) = some d := rfl
def asDs : List W → Option (List D)
  | [] => some []
  | .d d :: r => (asDs r).map (d :: ·)
  | _ :: _ => none
def views (μ : Sto) : List W → Option (List D)
  | [] => some []
  | w :: r => (view μ w).bind fun d => (views μ r).map (d :: ·)
@[simp] theorem asDs_nil : asDs [] = some [] := rfl
@[simp] theorem asDs_cons (d : D) (r : List W) : asDs (.d d :: r) = (asDs r).map (d :: ·) := rfl

/-! ### expressions -/
def eVar (i : Nat) : EF := fun ρ μ => match ρ[i]? with
  | some (some w) => .ok w μ
  | _ => .no
def eC (d : D) : EF := fun _ μ => .ok (.d d) μ
def eInt (i : Int) : EF := eC (.int i)
def eStr (x : Str) : EF := eC (.str x)
def eBl (b : Bool) : EF := eC (.bool b)
def eNon : EF := eC .none
def eFn (x : Str) : EF := fun _ μ => .ok (.f x) μ
/-- an operator on two values -/
def eOp (op : D → D → Option D) (f g : EF) : EF := fun ρ μ => (f ρ μ).bind fun a μ1 => (g ρ μ1).bind fun b μ2 =>
  ofO ((view μ2 a).bind fun x => (view μ2 b).bind fun y => (op x y).map W.d) μ2
def eUn (op : D → Option D) (f : EF) : EF := fun ρ μ => (f ρ μ).bind fun a μ1 =>
  ofO ((view μ1 a).bind fun x => (op x).map W.d) μ1
def aNil : AF := fun _ μ => .ok [] μ
def aCons (f : EF) (r : AF) : AF := fun ρ μ => (f ρ μ).bind fun a μ1 => (r ρ μ1).bind fun as μ2 => .ok (a :: as) μ2
def eTup (a : AF) : EF := fun ρ μ => (a ρ μ).bind fun ws μ1 => ofO ((asDs ws).map fun ds => W.d (.tuple ds)) μ1
def eLst (a : AF) : EF := fun ρ μ => (a ρ μ).bind fun ws μ1 => ofO ((asDs ws).map fun ds => W.d (.list ds)) μ1
/-- a list that will be changed -/
def eLstM (a : AF) : EF := fun ρ μ => (a ρ μ).bind fun ws μ1 => match asDs ws with
  | some ds => .ok (.m μ1.length) (μ1 ++ [some (.lst ds)])
  | none => .no
def eCall (g : GF) (a : AF) : EF := fun ρ μ => (a ρ μ).bind g
/-- a builtin's call, by what its arguments show -/
def eBlt (h : List D → Option D) (a : AF) : EF := fun ρ μ => (a ρ μ).bind fun ws μ1 => ofO ((views μ1 ws).bind fun ds => (h ds).map W.d) μ1
def isB : W → Option Bool
  | .d (.bool b) => some b
  | _ => none
@[simp] theorem isB_d (b : Bool) : isB (.d (.bool b)) = some b := rfl
/-- behind a test -/
def R.test (r : R W) (f : Bool → Sto → R W) : R W := r.bind fun w μ => match isB w with
  | some b => f b μ
  | none => .no
@[simp] theorem R.test_ok (b : Bool) (μ : Sto) (f : Bool → Sto → R W) : (R.ok (.d (.bool b)) μ).test f = f b μ := rfl
@[simp] theorem R.test_er (x : Exn) (μ : Sto) (f : Bool → Sto → R W) : (R.er x μ : R W).test f = .er x μ := rfl
def eAnd (f g : EF) : EF := fun ρ μ => (f ρ μ).test fun b μ1 => if b = true then g ρ μ1 else .ok (.d (.bool false)) μ1
def eOr (f g : EF) : EF := fun ρ μ => (f ρ μ).test fun b μ1 => if b = true then .ok (.d (.bool true)) μ1 else g ρ μ1
def eNot (f : EF) : EF := fun ρ μ => (f ρ μ).test fun b μ1 => .ok (.d (.bool (!b))) μ1
def eIf (c f g : EF) : EF := fun ρ μ => (c ρ μ).test fun b μ1 => if b = true then f ρ μ1 else g ρ μ1
/-- a op b op' c -/
def eChain (op op' : D → D → Option D) (f g h : EF) : EF := fun ρ μ => (f ρ μ).bind fun a μ1 => (g ρ μ1).bind fun b μ2 =>
  (ofO ((view μ2 a).bind fun x => (view μ2 b).bind fun y => (op x y).map W.d) μ2).test fun k μ3 => if k = true then
    (h ρ μ3).bind fun c μ4 => ofO ((view μ4 b).bind fun x => (view μ4 c).bind fun y => (op' x y).map W.d) μ4
  else .ok (.d (.bool false)) μ3
def isNonW : W → Bool
  | .d .none => true
  | _ => false
def eIsN (f : EF) : EF := fun ρ μ => (f ρ μ).bind fun a μ1 => .ok (.d (.bool (isNonW a))) μ1
def eNotN (f : EF) : EF := fun ρ μ => (f ρ μ).bind fun a μ1 => .ok (.d (.bool (!isNonW a))) μ1
/-- a slice -/
def ePart (o : Option EF) : Env → Sto → R (Option Int) := fun ρ μ => match o with
  | none => .ok none μ
  | some f => (f ρ μ).bind fun w μ1 => match w with
    | .d (.int i) => .ok (some i) μ1
    | _ => .no
def eSl (cut : D → Option Int → Option Int → Option D) (f : EF) (lo hi : Option EF) : EF := fun ρ μ => (f ρ μ).bind fun a μ1 =>
  (ePart lo ρ μ1).bind fun l μ2 => (ePart hi ρ μ2).bind fun h μ3 => ofO ((view μ3 a).bind fun x => (cut x l h).map W.d) μ3

/-! ### operators -/
def LIM : Nat := 1000000
def bI (b : Bool) : Int := if b = true then (1 : Int) else 0
def dAdd : D → D → Option D
  | .int a, .int b => some (.int (a + b))
  | .bool a, .int b => some (.int (bI a + b))
  | .str a, .str b => if a.length + b.length ≤ LIM then some (.str (a ++ b)) else none
  | .list a, .list b => if a.length + b.length ≤ LIM then some (.list (a ++ b)) else none
  | .tuple a, .tuple b => if a.length + b.length ≤ LIM then some (.tuple (a ++ b)) else none
  | _, _ => none
def dSub : D → D → Option D
  | .int a, .int b => some (.int (a - b))
  | .bool a, .int b => some (.int (bI a - b))
  | _, _ => none
/-- a product that the machine takes -/
def mulOk (a b : Int) : Prop := (a.natAbs < 2 ^ 64 ∨ b.natAbs < 2 ^ 64) ∨ (a.natAbs < 2 ^ 1000 ∧ b.natAbs < 2 ^ 1000)
instance (a b : Int) : Decidable (mulOk a b) := by unfold mulOk; infer_instance
def dMul : D → D → Option D
  | .int a, .int b => if mulOk a b then some (.int (a * b)) else none
  | .list a, .int n => if 0 ≤ n ∧ n ≤ 1000 ∧ a.length ≤ 1000 then some (.list (List.replicate n.toNat a).flatten) else none
  | .tuple a, .int n => if 2 ≤ n ∧ n ≤ 1000 ∧ a.length ≤ 1000 ∧ a ≠ [] then some (.tuple (List.replicate n.toNat a).flatten) else none
  | .str a, .int n => if 2 ≤ n ∧ n ≤ 1000 ∧ 1 ≤ a.length ∧ a.length ≤ 1000 then some (.str ⟨(List.replicate n.toNat a.cps).foldl (· ++ ·) #[]⟩) else none
  | _, _ => none
def divOk (b : Int) : Prop := 0 < b ∧ b < 2 ^ 1000
instance (b : Int) : Decidable (divOk b) := by unfold divOk; infer_instance
def divNeg (b : Int) : Prop := b < 0 ∧ b.natAbs < 2 ^ 1000
instance (b : Int) : Decidable (divNeg b) := by unfold divNeg; infer_instance
def dDiv : D → D → Option D
  | .int a, .int b => if divOk b then some (.int (a / b)) else if divNeg b then some (.int (a.fdiv b)) else none
  | _, _ => none
def dMod : D → D → Option D
  | .int a, .int b => if 0 < b then some (.int (a % b)) else if b < 0 then some (.int (a.fmod b)) else none
  | _, _ => none
def dPow : D → D → Option D
  | .int a, .int b => if 0 ≤ b ∧ b ≤ 1000 ∧ a.natAbs < 2 ^ 64 then some (.int (a ^ b.toNat)) else none
  | _, _ => none
def dNeg : D → Option D
  | .int a => some (.int (-a))
  | .bool a => some (.int (-(bI a)))
  | _ => none
def cmpI (p : Int → Int → Bool) : D → D → Option D
  | .int a, .int b => some (.bool (p a b))
  | _, _ => none
def dLt := cmpI fun a b => decide (a < b)
def dLe := cmpI fun a b => decide (a ≤ b)
def dGt := cmpI fun a b => decide (b < a)
def dGe := cmpI fun a b => decide (b ≤ a)
def dEq (a b : D) : Option D := if SeqAt.shaped a = true ∧ SeqAt.shaped b = true then some (.bool (PyData.eqv a b)) else none
def dNe (a b : D) : Option D := if SeqAt.shaped a = true ∧ SeqAt.shaped b = true then some (.bool (!PyData.eqv a b)) else none
def dIsB : D → D → Option D
  | .bool a, .bool b => some (.bool (a == b))
  | _, _ => none
def dIsNotB : D → D → Option D
  | .bool a, .bool b => some (.bool (a != b))
  | _, _ => none
def flatD : D → Bool
  | .none => true
  | .bool _ => true
  | .int _ => true
  | .str _ => true
  | _ => false
/-- x in xs, of flat things; a sign in a text -/
def dIn : D → D → Option D
  | x, .list l => if flatD x = true ∧ l.all flatD = true then some (.bool (l.any fun y => PyData.eqv y x)) else none
  | x, .tuple l => if flatD x = true ∧ l.all flatD = true then some (.bool (l.any fun y => PyData.eqv y x)) else none
  | .str x, .str y => if x.cps.size = 1 then some (.bool (decide (x.cps.getD 0 0 ∈ y.cps.toList))) else none
  | _, _ => none
def dNotIn (x y : D) : Option D := match dIn x y with
  | some (.bool b) => some (.bool (!b))
  | _ => none
/-- an item -/
def ixI (n : Nat) (i : Int) : Option Nat := if 0 ≤ i then (if i < n then some i.toNat else none) else (if -(n : Int) ≤ i then some (i + n).toNat else none)
def dIx : D → D → Option D
  | .list l, .int i => (ixI l.length i).bind fun k => l[k]?
  | .tuple l, .int i => (ixI l.length i).bind fun k => l[k]?
  | _, _ => none
def six (n d : Nat) : Option Int → Nat
  | none => d
  | some v => if v < 0 then (v + (n : Int)).toNat else min v.toNat n
def cutL {α : Type} (l : List α) (lo hi : Option Int) : List α := (l.drop (six l.length 0 lo)).take (six l.length l.length hi - six l.length 0 lo)
def cutT (z : Str) (lo hi : Option Int) : Str := ⟨(cutL z.cps.toList lo hi).toArray⟩
def dCut : D → Option Int → Option Int → Option D
  | .str z, lo, hi => if z.length ≤ LIM then some (.str (cutT z lo hi)) else none
  | .list l, lo, hi => some (.list (cutL l lo hi))
  | .tuple l, lo, hi => some (.tuple (cutL l lo hi))
  | _, _, _ => none
def dRevL : D → Option D
  | .list l => some (.list l.reverse)
  | _ => none
def dRev : D → Option D
  | .list l => some (.list l.reverse)
  | .tuple l => some (.tuple l.reverse)
  | _ => none

/-! ### builtins -/
def bLen : List D → Option D
  | [.list l] => some (.int l.length)
  | [.tuple l] => some (.int l.length)
  | [.str x] => if x.length ≤ LIM then some (.int x.length) else none
  | _ => none
def bMax2 : List D → Option D
  | [.int a, .int b] => some (.int (if b > a then b else a))
  | _ => none
def bMin2 : List D → Option D
  | [.int a, .int b] => some (.int (if b < a then b else a))
  | _ => none
def bInt : List D → Option D
  | [.int a] => some (.int a)
  | [.str a] => (PySem.intText? a).bind fun n => if a.length ≤ 640 then some (.int n) else none
  | [.bool b] => some (.int (if b then 1 else 0))
  | _ => none
def bStr : List D → Option D
  | [.int i] => if i.natAbs.log2 < 1920 then some (.str (toString i)) else none
  | [.str a] => some (.str a)
  | [.bool b] => some (.str (if b then "True" else "False"))
  | _ => none
/-- what a value is worth as a test -/
def truD : D → Option Bool
  | .none => some false
  | .bool b => some b
  | .int i => some (i != 0)
  | .str x => if x.length ≤ LIM then some ((x.length : Int) != 0) else none
  | .list l => some (!l.isEmpty)
  | .tuple l => some (!l.isEmpty)
  | _ => none
def eNotT (f : EF) : EF := eUn (fun d => (truD d).map fun b => .bool (!b)) f
def intsOf : List D → Option (List Int)
  | [] => some []
  | .int x :: r => (intsOf r).map (x :: ·)
  | _ :: _ => none
def insI (x : Int) : List Int → List Int
  | [] => [x]
  | y :: r => if x ≤ y then x :: y :: r else y :: insI x r
def isort : List Int → List Int
  | [] => []
  | x :: r => insI x (isort r)
def minI : Int → List Int → Int
  | a, [] => a
  | a, b :: r => minI (if b < a then b else a) r
/-- the least of a list -/
def bMin1 : List D → Option D
  | [.list l] => (intsOf l).bind fun ns => match ns with
    | [] => none
    | a :: r => some (.int (minI a r))
  | _ => none
def bSorted : List D → Option D
  | [.list l] => (intsOf l).map fun ns => .list ((isort ns).map .int)
  | _ => none
def bAbs : List D → Option D
  | [.int a] => some (.int (if a < 0 then -a else a))
  | _ => none
def allB : List D → Option Bool
  | [] => some true
  | .bool b :: r => (allB r).map (b && ·)
  | _ :: _ => none
def bAll : List D → Option D
  | [.list l] => (allB l).map .bool
  | _ => none
def bTup : List D → Option D
  | [.list l] => some (.tuple l)
  | [.tuple l] => some (.tuple l)
  | _ => none
def bLst : List D → Option D
  | [.list l] => some (.list l)
  | [.tuple l] => some (.list l)
  | _ => none
def sumI : List D → Option Int
  | [] => some 0
  | .int i :: r => (sumI r).map (i + ·)
  | _ :: _ => none
def bSum : List D → Option D
  | [.list l] => (sumI l).map .int
  | _ => none
/-- isinstance by the kinds that are asked -/
inductive Ty where | int | bool | str | tuple | list
def isTy : Ty → D → Bool
  | .int, .int _ => true
  | .int, .bool _ => true
  | .bool, .bool _ => true
  | .str, .str _ => true
  | .tuple, .tuple _ => true
  | .list, .list _ => true
  | _, _ => false
def eIsi (t : Ty) (f : EF) : EF := eUn (fun d => some (.bool (isTy t d))) f

/-- a method of a list that stays, with one argument -/
def eLm (op : List D → D → Option D) (f g : EF) : EF := fun ρ μ => (f ρ μ).bind fun a μ1 => match a with
  | .d (.list l) => (g ρ μ1).bind fun b μ2 => ofO ((view μ2 b).bind fun y => (op l y).map W.d) μ2
  | _ => .no
def lIndex (l : List D) (x : D) : Option D := if flatD x = true ∧ l.all flatD = true then (l.findIdx? fun z => PyData.eqv z x).map fun j => .int (j : Nat) else none
def lCount (l : List D) (x : D) : Option D := if flatD x = true ∧ l.all flatD = true then some (.int (l.countP fun z => PyData.eqv z x : Nat)) else none
/-! ### statements -/
def sNil : SF := fun ρ μ => .nx ρ μ
def sSeq (F G : SF) : SF := fun ρ μ => match F ρ μ with
  | .nx ρ1 μ1 => G ρ1 μ1
  | r => r
def sAsg (i : Nat) (f : EF) : SF := fun ρ μ => (f ρ μ).bindS fun w μ1 => .nx (ρ.set i (some w)) μ1
/-- a, b = x, y -/
def sPar (i j : Nat) (f g : EF) : SF := fun ρ μ => (f ρ μ).bindS fun w μ1 => (g ρ μ1).bindS fun u μ2 => .nx ((ρ.set i (some w)).set j (some u)) μ2
/-- targets of plain data -/
abbrev TF := D → Env → Option Env
def tName (i : Nat) : TF := fun d ρ => some (ρ.set i (some (.d d)))
def tTups : List TF → List D → Env → Option Env
  | [], [], ρ => some ρ
  | t :: ts, d :: ds, ρ => (t d ρ).bind fun ρ1 => tTups ts ds ρ1
  | _, _, _ => none
def tTup (ts : List TF) : TF := fun d ρ => match d with
  | .tuple ds => tTups ts ds ρ
  | _ => none
/-- the items of a list -/
def tUnl (ts : List TF) : TF := fun d ρ => match d with
  | .list ds => tTups ts ds ρ
  | _ => none
def sTgt (t : TF) (f : EF) : SF := fun ρ μ => (f ρ μ).bindS fun w μ1 => match w with
  | .d d => (match t d ρ with | some ρ1 => .nx ρ1 μ1 | none => .no)
  | _ => .no
def sDrop (f : EF) : SF := fun ρ μ => (f ρ μ).bindS fun _ μ1 => .nx ρ μ1
def sRet (f : EF) : SF := fun ρ μ => (f ρ μ).bindS fun w μ1 => .rt w μ1
/-- return of a name whose list is not changed any more -/
def sRetF (f : EF) : SF := fun ρ μ => (f ρ μ).bindS fun w μ1 => match view μ1 w with
  | some d => .rt (.d d) (match w with | .m k => μ1.set k none | _ => μ1)
  | none => .no
def RS.test (r : R W) (f : Bool → Sto → RS) : RS := r.bindS fun w μ => match isB w with
  | some b => f b μ
  | none => .no
@[simp] theorem RS.test_ok (b : Bool) (μ : Sto) (f : Bool → Sto → RS) : RS.test (R.ok (.d (.bool b)) μ) f = f b μ := rfl
def sIf (c : EF) (F G : SF) : SF := fun ρ μ => RS.test (c ρ μ) fun b μ1 => if b = true then F ρ μ1 else G ρ μ1
def sBreak : SF := fun ρ μ => .bk ρ μ
def sCont : SF := fun ρ μ => .ct ρ μ
def sRaise (x : Str) : SF := fun _ μ => .er ⟨x, none⟩ μ
/-- the items of what a for walks -/
abbrev IF := Env → Sto → R (List D)
def charsOf (x : Str) : List D := x.cps.toList.map fun c => .str ⟨#[c]⟩
def items : D → Option (List D)
  | .str x => if x.length ≤ LIM then some (charsOf x) else none
  | .list l => some l
  | .tuple l => some l
  | _ => none
def iSeq (f : EF) : IF := fun ρ μ => (f ρ μ).bind fun w μ1 => match w with
  | .d d => ofO (items d) μ1
  | _ => .no
def rangeD (a b : Int) : List D := (List.range (b - a).toNat).map fun (k : Nat) => PyData.int (a + k)
def iRange1 (f : EF) : IF := fun ρ μ => (f ρ μ).bind fun w μ1 => match w with
  | .d (.int b) => if -(LIM : Int) ≤ b ∧ b ≤ LIM then .ok (rangeD 0 b) μ1 else .no
  | _ => .no
def iRange2 (f g : EF) : IF := fun ρ μ => (f ρ μ).bind fun w μ1 => (g ρ μ1).bind fun u μ2 => match w, u with
  | .d (.int a), .d (.int b) => if -(LIM : Int) ≤ a ∧ a ≤ LIM ∧ -(LIM : Int) ≤ b ∧ b ≤ LIM then .ok (rangeD a b) μ2 else .no
  | _, _ => .no
/-- list(range(..)) -/
def eLRg (it : IF) : EF := fun ρ μ => (it ρ μ).bind fun l μ1 => .ok (.d (.list l)) μ1
def forL (t : TF) (B : SF) : List D → SF
  | [] => fun ρ μ => .nx ρ μ
  | d :: r => fun ρ μ => match t d ρ with
    | none => .no
    | some ρ1 => match B ρ1 μ with
      | .nx ρ2 μ2 => forL t B r ρ2 μ2
      | .ct ρ2 μ2 => forL t B r ρ2 μ2
      | .bk ρ2 μ2 => .nx ρ2 μ2
      | .rt w μ2 => .rt w μ2
      | .er x μ2 => .er x μ2
      | .no => .no
def sFor (t : TF) (it : IF) (B : SF) : SF := fun ρ μ => (it ρ μ).bindS fun l μ1 => forL t B l ρ μ1
def whileN (c : EF) (B : SF) : Nat → SF
  | 0 => fun _ _ => .no
  | n + 1 => fun ρ μ => RS.test (c ρ μ) fun b μ1 => if b = true then (match B ρ μ1 with
      | .nx ρ2 μ2 => whileN c B n ρ2 μ2
      | .ct ρ2 μ2 => whileN c B n ρ2 μ2
      | .bk ρ2 μ2 => .nx ρ2 μ2
      | .rt w μ2 => .rt w μ2
      | .er x μ2 => .er x μ2
      | .no => .no) else .nx ρ μ1
/-- a while, of at most so many turns -/
def sWhile (n : Nat) (c : EF) (B : SF) : SF := whileN c B n

/-! ### comprehensions -/
def wipeE (ρ : Env) : List Nat → Env
  | [] => ρ
  | i :: r => (wipeE ρ r).set i none
def lcL (t : TF) (c : EF) (e : EF) (ρ : Env) : List D → List D → Sto → R W
  | [], acc, μ => .ok (.d (.list acc)) μ
  | d :: r, acc, μ => match t d ρ with
    | none => .no
    | some ρ1 => match c ρ1 μ with
      | .ok (.d (.bool true)) μ1 => match e ρ1 μ1 with
        | .ok (.d y) μ2 => lcL t c e ρ r (acc ++ [y]) μ2
        | _ => .no
      | .ok (.d (.bool false)) μ1 => lcL t c e ρ r acc μ1
      | _ => .no
def eYes : EF := eBl true
def eLc (vs : List Nat) (t : TF) (it : IF) (c : EF) (e : EF) : EF := fun ρ μ => (it ρ μ).bind fun l μ1 => lcL t c e (wipeE ρ vs) l [] μ1

/-! ### lists that change -/
def eApp (f e : EF) : EF := fun ρ μ => (f ρ μ).bind fun w μ1 => match w with
  | .m k => (match mlist μ1 k with
    | some _ => (e ρ μ1).bind fun u μ2 => (match u, mlist μ2 k with
      | .d d, some l => if l.length < LIM then .ok (.d .none) (μ2.set k (some (.lst (l ++ [d])))) else .no
      | _, _ => .no)
    | none => .no)
  | _ => .no
/-- o[i] = e -/
def sSub (o i e : EF) : SF := fun ρ μ => (e ρ μ).bindS fun u μ1 => (o ρ μ1).bindS fun w μ2 => (i ρ μ2).bindS fun j μ3 => match u, w, j with
  | .d d, .m k, .d (.int n) => (match mlist μ3 k with
    | some l => (match ixI l.length n with
      | some p => .nx ρ (μ3.set k (some (.lst (l.set p d))))
      | none => .no)
    | none => .no)
  | _, _, _ => .no

/-! ### methods of texts -/
def eM0 (op : Str → Option D) (f : EF) : EF := fun ρ μ => (f ρ μ).bind fun w μ1 => match w with
  | .d (.str a) => ofO ((op a).map W.d) μ1
  | _ => .no
def eM1 (op : Str → D → Option D) (f g : EF) : EF := fun ρ μ => (f ρ μ).bind fun w μ1 => match w with
  | .d (.str a) => (g ρ μ1).bind fun u μ2 => ofO ((view μ2 u).bind fun y => (op a y).map W.d) μ2
  | _ => .no
def mUpper (a : Str) : Option D := if a.length ≤ LIM then some (.str (Txt.upper a)) else none
def strsOf : List D → Option (List Str)
  | [] => some []
  | .str x :: r => (strsOf r).map (x :: ·)
  | _ :: _ => none
def mSplit (a : Str) : D → Option D
  | .str b => if b.length ≠ 0 ∧ a.length ≤ LIM then some (.list ((Txt.split a b).map .str)) else none
  | _ => none
def joinOk (a : Str) (ys : List Str) : Prop := (ys.map (·.length)).sum + ys.length * a.length ≤ LIM
instance (a : Str) (ys : List Str) : Decidable (joinOk a ys) := by unfold joinOk; infer_instance
def mJoin (a : Str) : D → Option D
  | .list l => (strsOf l).bind fun ys => if joinOk a ys then some (.str (Txt.join a ys)) else none
  | .tuple l => (strsOf l).bind fun ys => if joinOk a ys then some (.str (Txt.join a ys)) else none
  | _ => none
/-- isinstance of the error that is handled -/
def eIsX (a : Nat) (b : Bool) (f : EF) : EF := fun ρ μ => (f ρ μ).bind fun w μ1 => match w with
  | .x k => if k = a then .ok (.d (.bool b)) μ1 else .no
  | _ => .no
/-- zip of two lists -/
def iZipD (f g : EF) : IF := fun ρ μ => (f ρ μ).bind fun w μ1 => (g ρ μ1).bind fun u μ2 => match w, u with
  | .d (.list l), .d (.list r) => if l.length ≤ LIM then .ok ((l.zip r).map fun p => .tuple [p.1, p.2]) μ2 else .no
  | _, _ => .no

def enumD (l : List D) : List D := l.zipIdx.map fun p => .tuple [.int (p.2 : Nat), p.1]
/-- enumerate of a tuple or a list -/
def iEnumD (f : EF) : IF := fun ρ μ => (f ρ μ).bind fun w μ1 => match w with
  | .d (.tuple l) => if l.length ≤ LIM then .ok (enumD l) μ1 else .no
  | .d (.list l) => if l.length ≤ LIM then .ok (enumD l) μ1 else .no
  | _ => .no

def boolsL : List D → Option (List Bool)
  | [] => some []
  | .bool b :: l => (boolsL l).map (b :: ·)
  | _ :: _ => none
/-- how many truth values -/
def cntB (bs : List Bool) : Nat := (if true ∈ bs then 1 else 0) + (if false ∈ bs then 1 else 0)
/-- len(set(list of truth values)) -/
def eLenSet (f : EF) : EF := fun ρ μ => (f ρ μ).bind fun w μ1 => match w with
  | .d (.list l) => match boolsL l with
    | some bs => if bs.length ≤ 1000 then .ok (.d (.int (cntB bs : Nat))) μ1 else .no
    | none => .no
  | _ => .no

/-! ### a call that is tried -/
def eTry (nm : Exn → Option Str) (f : EF) : EF := fun ρ μ => match f ρ μ with
  | .ok _ μ1 => .ok (.d (.str "")) μ1
  | .er x μ1 => ofO ((nm x).map fun s => W.d (.str s)) μ1
  | .no => .no

/-- list + list, for a list that will be changed -/
def eCatM (f g : EF) : EF := fun ρ μ => (f ρ μ).bind fun a μ1 => (g ρ μ1).bind fun b μ2 => match view μ2 a, view μ2 b with
  | some (.list x), some (.list y) => if x.length + y.length ≤ LIM then .ok (.m μ2.length) (μ2 ++ [some (.lst (x ++ y))]) else .no
  | _, _ => .no
/-- from here on a list is not changed any more -/
def sFrz (i : Nat) : SF := fun ρ μ => match ρ[i]? with
  | some (some (.m k)) => (match mlist μ k with | some l => .nx (ρ.set i (some (.d (.list l)))) (μ.set k none) | none => .no)
  | _ => .no
/-! ### defs as values -/
/-- a comprehension over things that are written one behind another (defs, too) -/
def lcW (i : Nat) (e : EF) (ρ : Env) : List W → List D → Sto → R W
  | [], acc, μ => .ok (.d (.list acc)) μ
  | w :: r, acc, μ => match e (ρ.set i (some w)) μ with
    | .ok (.d y) μ1 => lcW i e ρ r (acc ++ [y]) μ1
    | _ => .no
def eLcW (vs : List Nat) (i : Nat) (r : AF) (e : EF) : EF := fun ρ μ => (r ρ μ).bind fun ws μ1 => lcW i e (wipeE ρ vs) ws [] μ1
/-- a call of a name that holds one of several defs -/
def eCallV (i : Nat) (gs : List (Str × GF)) (a : AF) : EF := fun ρ μ => match ρ[i]? with
  | some (some (.f x)) => (match gs.lookup x with | some g => (a ρ μ).bind g | none => .no)
  | _ => .no

/-! ### defs -/
def startE (n : Nat) (ws : List W) : Env := ws.map some ++ List.replicate (n - ws.length) none
def fin (n : Nat) : RS → R W
  | .nx _ μ => .ok (.d .none) (μ.take n)
  | .rt (.d d) μ => .ok (.d d) (μ.take n)
  | .rt (.f x) μ => .ok (.f x) (μ.take n)
  | .rt (.e c y) μ => .ok (.e c y) (μ.take n)
  | .rt (.es l) μ => .ok (.es l) (μ.take n)
  | .rt (.m k) μ => if k < n then .ok (.m k) (μ.take n) else if k = n then .ok (.m k) (μ.take (n + 1)) else .no
  | .er x μ => .er x (μ.take n)
  | _ => .no
/-- a def of so many names, p of them its parameters -/
def fnOf (p n : Nat) (F : SF) : GF := fun ws μ => if ws.length = p then fin μ.length (F (startE n ws) μ) else .no

/-! ### an error's names -/
def ownCls : List Str := ["InvalidChange", "InvalidPiece", "InvalidStatement", "InvalidWorth", "InvalidNumber", "InvalidOrder", "InvalidPrices", "InvalidPairs", "InvalidText", "InvalidIndex", "InvalidRow", "InvalidTable", "Unlike", "Done", "NothingToUndo", "TooMany"]
def labs : List Str := ["change value", "piece value", "statement value", "worth value", "number value", "order value", "prices value", "pairs value", "text value", "index value", "row value", "table value", "unlike value", "done value", "undo value", "many value"]
/-- what isinstance answers, one class behind another, of an error of class i -/
def bOf (i j : Nat) : Bool := j == i || j == 16
def F_names (a : Nat) (b : Nat → Bool) : SF :=
  (sSeq (sAsg 1 (eLst (aCons (eIsX a (b 0) (eVar 0)) (aCons (eIsX a (b 1) (eVar 0)) (aCons (eIsX a (b 2) (eVar 0)) aNil)))))
  (sSeq (sAsg 1 (eOp dAdd (eVar 1) (eLst (aCons (eIsX a (b 3) (eVar 0)) (aCons (eIsX a (b 4) (eVar 0)) (aCons (eIsX a (b 5) (eVar 0)) aNil))))))
  (sSeq (sAsg 1 (eOp dAdd (eVar 1) (eLst (aCons (eIsX a (b 6) (eVar 0)) (aCons (eIsX a (b 7) (eVar 0)) (aCons (eIsX a (b 8) (eVar 0)) aNil))))))
  (sSeq (sAsg 1 (eOp dAdd (eVar 1) (eLst (aCons (eIsX a (b 9) (eVar 0)) (aCons (eIsX a (b 10) (eVar 0)) (aCons (eIsX a (b 11) (eVar 0)) aNil))))))
  (sSeq (sAsg 1 (eOp dAdd (eVar 1) (eLst (aCons (eIsX a (b 12) (eVar 0)) (aCons (eIsX a (b 13) (eVar 0)) (aCons (eIsX a (b 14) (eVar 0)) aNil))))))
  (sSeq (sAsg 1 (eOp dAdd (eVar 1) (eLst (aCons (eIsX a (b 15) (eVar 0)) (aCons (eIsX a (b 16) (eVar 0)) aNil)))))
  (sSeq (sAsg 2 (eStr "change piece statement worth number order prices pairs text index row table unlike done undo many value"))
  (sRet (eM1 mJoin (eStr " ") (eLc [3, 4] (tTup [tName 3, tName 4]) (iZipD (eM1 mSplit (eVar 2) (eStr " ")) (eVar 1)) (eVar 4) (eVar 3)))))))))))
theorem eVar1_at (x w : _) (ρ : Env) (μ : Sto) : eVar 1 (x :: some w :: ρ) μ = .ok w μ := rfl
theorem dAdd_short (a b : List D) (h : a.length + b.length ≤ LIM) : dAdd (.list a) (.list b) = some (.list (a ++ b)) := if_pos h
theorem eIsX_at (a : Nat) (b : Bool) (ρ : Env) (μ : Sto) : eIsX a b (eVar 0) (some (.x a) :: ρ) μ = .ok (.d (.bool b)) μ := by
  simp [eIsX, eVar]
def nmC (cl : List Str) (x : Exn) : Option Str := match x.arg with
  | some _ => none
  | none => if cl.contains x.cls then (ownCls.idxOf? x.cls).bind fun i => labs[i]? else none
def boolsOf (b : Nat → Bool) : List D := [.bool (b 0), .bool (b 1), .bool (b 2), .bool (b 3), .bool (b 4), .bool (b 5), .bool (b 6), .bool (b 7), .bool (b 8), .bool (b 9), .bool (b 10), .bool (b 11), .bool (b 12), .bool (b 13), .bool (b 14), .bool (b 15), .bool (b 16)]
theorem names_eval0 (a : Nat) (b : Nat → Bool) (μ : Sto) : F_names a b (startE 5 [.x a]) μ =
    sRet (eM1 mJoin (eStr " ") (eLc [3, 4] (tTup [tName 3, tName 4]) (iZipD (eM1 mSplit (eVar 2) (eStr " ")) (eVar 1)) (eVar 4) (eVar 3))) [some (.x a), some (.d (.list (boolsOf b))), some (.d (.str "change piece statement worth number order prices pairs text index row table unlike done undo many value")), none, none] μ := by
  have s0 : startE 5 [.x a] = some (.x a) :: [none, none, none, none] := rfl
  rw [s0]
  unfold F_names
  simp [sSeq, sAsg, eLst, aCons, aNil, eIsX_at, eVar1_at, R.bind_ok, R.bindS_ok, asDs_cons, asDs_nil, Option.map_some, ofO_some, List.set_cons_succ, List.set_cons_zero, eOp, view_d, Option.bind_some,
    dAdd, List.cons_append, List.nil_append, eStr, eC, List.length_cons, List.length_nil, LIM, Nat.reduceAdd, Nat.reduceLeDiff]
  rfl
theorem names_eval (a : Nat) : ∀ (i : Nat) (s : Str) (μ : Sto), labs[i]? = some s → F_names a (bOf i) (startE 5 [.x a]) μ = .rt (.d (.str s)) μ := by
  intro i s μ h
  rw [names_eval0]
  exact match i, h with
  | 0, h => by cases h; kernel_rfl
  | 1, h => by cases h; kernel_rfl
  | 2, h => by cases h; kernel_rfl
  | 3, h => by cases h; kernel_rfl
  | 4, h => by cases h; kernel_rfl
  | 5, h => by cases h; kernel_rfl
  | 6, h => by cases h; kernel_rfl
  | 7, h => by cases h; kernel_rfl
  | 8, h => by cases h; kernel_rfl
  | 9, h => by cases h; kernel_rfl
  | 10, h => by cases h; kernel_rfl
  | 11, h => by cases h; kernel_rfl
  | 12, h => by cases h; kernel_rfl
  | 13, h => by cases h; kernel_rfl
  | 14, h => by cases h; kernel_rfl
  | 15, h => by cases h; kernel_rfl
  | n + 16, h => by cases h
end Mi

set_option Elab.async false
set_option linter.all false
set_option maxRecDepth 100000
/-! The mirror's data on the abstract heap. -/
namespace L3
open PySem PySem.Spec PyProof.Rows L2 Mi

/-- what stands around: the written part, the module's names, the tables of lambdas -/
structure Cv where
  K : PySem.W.Frag
  mg : Str → Option Value
  T : List (Addr × Str)
/-- the addresses of one's own changing things; of those that nobody knows of yet (a comprehension's new list) -/
structure Al where
  own : List Addr
  hid : List Addr
def Own (α : Al) (μ : Sto) (a : Addr) : Prop := (∃ (k : Nat) (c : Cell), α.own[k]? = some a ∧ μ[k]? = some (some c)) ∨ a ∈ α.hid
mutual
inductive Rp (K : PySem.W.Frag) (H : Hp) (M : Addr → Prop) : V → D → Prop
  | non : Rp K H M .non .none
  | bl (b : Bool) : Rp K H M (.bl b) (.bool b)
  | int (i : Int) : Rp K H M (.int i) (.int i)
  | str (x : Str) : Rp K H M (.str x) (.str x)
  | lst {a : Addr} {xs : List V} {ds : List D} : Rd H a (.lst xs) → ¬ M a → RpAll K H M xs ds → Rp K H M (.ref a) (.list ds)
  | tup {a : Addr} {xs : List V} {ds : List D} : SqT K H a xs → RpAll K H M xs ds → Rp K H M (.ref a) (.tuple ds)
inductive RpAll (K : PySem.W.Frag) (H : Hp) (M : Addr → Prop) : List V → List D → Prop
  | nil : RpAll K H M [] []
  | cons {v : V} {vs : List V} {d : D} {ds : List D} : Rp K H M v d → RpAll K H M vs ds → RpAll K H M (v :: vs) (d :: ds)
end
/-- what a value shows, at the top a changing list too -/
def RpT (K : PySem.W.Frag) (H : Hp) (M : Addr → Prop) (v : V) (d : D) : Prop :=
  Rp K H M v d ∨ ∃ a xs ds, v = .ref a ∧ d = .list ds ∧ Rd H a (.lst xs) ∧ RpAll K H M xs ds
/-- at a: an exception object of that class that nobody raised, its args at t -/
def ExM (cls : Value) (a t : Addr) : HO := .ext fun h => ∃ (oe : Obj) (vs : Array Value), h.get? a = some oe ∧ Zc cls none oe ∧ oe.data = .fields vs ∧ vs[0]? = some (.ref t)
def RpE (C : Cv) (H : Hp) (M : Addr → Prop) (v : V) (c : Str) : Xy → Prop
  | .msg m => ∃ a A t, v = .ref a ∧ C.mg c = some (.ref A) ∧ H a = some (ExM (.ref A) a t) ∧ ¬ M a ∧ H t = some (.tup [.str m])
  | .lim d => ∃ a A dx u, v = .ref a ∧ C.mg c = some (.ref A) ∧ H a = some (exo a A (some dx)) ∧ ¬ M a ∧ H dx = some (exd dx [("limit", u)]) ∧ ¬ M dx ∧ Rp C.K H M u d
inductive RpEs (C : Cv) (H : Hp) (M : Addr → Prop) : List V → List (Str × Xy) → Prop
  | nil : RpEs C H M [] []
  | cons {v : V} {vs : List V} {c : Str} {y : Xy} {l : List (Str × Xy)} : RpE C H M v c y → RpEs C H M vs l → RpEs C H M (v :: vs) ((c, y) :: l)
def RpW (C : Cv) (H : Hp) (α : Al) (μ : Sto) (v : V) : W → Prop
  | .d d => Rp C.K H (Own α μ) v d
  | .m k => ∃ a, α.own[k]? = some a ∧ v = .ref a
  | .f x => ∃ a, C.mg x = some (.ref a) ∧ v = .ref a
  | .x a => v = .ref a
  | .e c y => RpE C H (Own α μ) v c y
  | .es l => ∃ a vs, v = .ref a ∧ Rd H a (.lst vs) ∧ ¬ Own α μ a ∧ RpEs C H (Own α μ) vs l
inductive RpWs (C : Cv) (H : Hp) (α : Al) (μ : Sto) : List V → List W → Prop
  | nil : RpWs C H α μ [] []
  | cons {v : V} {vs : List V} {w : W} {ws : List W} : RpW C H α μ v w → RpWs C H α μ vs ws → RpWs C H α μ (v :: vs) (w :: ws)
def NT (o : HO) : Prop := ∀ ps, o ≠ .tbl ps
structure Ext (H : Hp) (M : Addr → Prop) (H' : Hp) (M' : Addr → Prop) : Prop where
  any : ∀ b o, H b = some o → ¬ M b → NT o → H' b = some o ∧ ¬ M' b
  tup : ∀ b xs, H b = some (.tup xs) → H' b = some (.tup xs)
  frz : ∀ b o u, H b = some (.frz o u) → H' b = some (.frz o u)
theorem Ext.refl (H : Hp) (M : Addr → Prop) : Ext H M H M := ⟨fun _ _ h n _ => ⟨h, n⟩, fun _ _ h => h, fun _ _ _ h => h⟩
theorem Ext.trans {H H1 H2 : Hp} {M M1 M2 : Addr → Prop} (a : Ext H M H1 M1) (b : Ext H1 M1 H2 M2) : Ext H M H2 M2 :=
  ⟨fun c o h n t => b.any c o (a.any c o h n t).1 (a.any c o h n t).2 t, fun c xs h => b.tup c xs (a.tup c xs h), fun c o u h => b.frz c o u (a.frz c o u h)⟩
theorem Ext.rd {H H' : Hp} {M M' : Addr → Prop} (e : Ext H M H' M') {a : Addr} {xs : List V} (h : Rd H a (.lst xs)) (n : ¬ M a) : Rd H' a (.lst xs) ∧ ¬ M' a := by
  rcases h with h | ⟨o, h⟩
  · have q := e.any a _ h n (fun ps z => by cases z)
    exact ⟨.inl q.1, q.2⟩
  · have q := e.any a _ h n (fun ps z => by cases z)
    exact ⟨.inr ⟨o, q.1⟩, q.2⟩
theorem Ext.sqT {H H' : Hp} {M M' : Addr → Prop} (e : Ext H M H' M') {K : PySem.W.Frag} {a : Addr} {xs : List V} (h : SqT K H a xs) : SqT K H' a xs := by
  rcases h with (h | ⟨o, h⟩) | h
  · exact .inl (.inl (e.tup _ _ h))
  · exact .inl (.inr ⟨o, e.frz _ _ _ h⟩)
  · exact .inr h
mutual
theorem Rp.ext {K : PySem.W.Frag} {H H' : Hp} {M M' : Addr → Prop} (e : Ext H M H' M') : ∀ {v : V} {d : D}, Rp K H M v d → Rp K H' M' v d
  | _, _, .non => .non
  | _, _, .bl b => .bl b
  | _, _, .int i => .int i
  | _, _, .str x => .str x
  | _, _, .lst h n r => .lst (e.rd h n).1 (e.rd h n).2 (RpAll.ext e r)
  | _, _, .tup h r => .tup (e.sqT h) (RpAll.ext e r)
theorem RpAll.ext {K : PySem.W.Frag} {H H' : Hp} {M M' : Addr → Prop} (e : Ext H M H' M') : ∀ {v : List V} {d : List D}, RpAll K H M v d → RpAll K H' M' v d
  | _, _, .nil => .nil
  | _, _, .cons h t => .cons (Rp.ext e h) (RpAll.ext e t)
end
mutual
theorem Rp.dp {K : PySem.W.Frag} {H : Hp} {M : Addr → Prop} : ∀ {v : V} {d : D}, Rp K H M v d → Dp K H v d
  | _, _, .non => .non
  | _, _, .bl b => .bl b
  | _, _, .int i => .int i
  | _, _, .str x => .str x
  | _, _, .lst h n r => .lst (.inl h) (RpAll.dp r)
  | _, _, .tup h r => .tup h (RpAll.dp r)
theorem RpAll.dp {K : PySem.W.Frag} {H : Hp} {M : Addr → Prop} : ∀ {v : List V} {d : List D}, RpAll K H M v d → DpAll K H v d
  | _, _, .nil => .nil
  | _, _, .cons h t => .cons (Rp.dp h) (RpAll.dp t)
end
theorem RpT.dp {K : PySem.W.Frag} {H : Hp} {M : Addr → Prop} {v : V} {d : D} (h : RpT K H M v d) : Dp K H v d := by
  rcases h with h | ⟨a, xs, ds, rfl, rfl, h, r⟩
  · exact h.dp
  · exact .lst (.inl h) r.dp
theorem RpAll.length {K : PySem.W.Frag} {H : Hp} {M : Addr → Prop} : ∀ {vs : List V} {ds : List D}, RpAll K H M vs ds → vs.length = ds.length
  | _, _, .nil => rfl
  | _, _, .cons _ t => congrArg (· + 1) (RpAll.length t)
theorem RpAll.get {K : PySem.W.Frag} {H : Hp} {M : Addr → Prop} : ∀ {vs : List V} {ds : List D} {i : Nat} {d : D}, RpAll K H M vs ds → ds[i]? = some d → ∃ v, vs[i]? = some v ∧ Rp K H M v d
  | _, _, _, _, .nil, e => by simp at e
  | _, _, 0, _, .cons r _, e => by simp at e; subst e; exact ⟨_, rfl, r⟩
  | _, _, i + 1, d, .cons _ t, e => by
    obtain ⟨v, h1, h2⟩ := RpAll.get (i := i) (d := d) t (by simpa using e)
    exact ⟨v, by simpa using h1, h2⟩
theorem RpAll.append {K : PySem.W.Frag} {H : Hp} {M : Addr → Prop} : ∀ {vs us : List V} {ds es : List D}, RpAll K H M vs ds → RpAll K H M us es → RpAll K H M (vs ++ us) (ds ++ es)
  | _, _, _, _, .nil, s => s
  | _, _, _, _, .cons r t, s => .cons r (RpAll.append t s)
theorem RpAll.take {K : PySem.W.Frag} {H : Hp} {M : Addr → Prop} : ∀ {vs : List V} {ds : List D} (n : Nat), RpAll K H M vs ds → RpAll K H M (vs.take n) (ds.take n)
  | _, _, 0, _ => by simp; exact .nil
  | _, _, _ + 1, .nil => by simp; exact .nil
  | _, _, n + 1, .cons r t => by simp; exact .cons r (RpAll.take n t)
theorem RpAll.drop {K : PySem.W.Frag} {H : Hp} {M : Addr → Prop} : ∀ {vs : List V} {ds : List D} (n : Nat), RpAll K H M vs ds → RpAll K H M (vs.drop n) (ds.drop n)
  | _, _, 0, r => r
  | _, _, _ + 1, .nil => by simp; exact .nil
  | _, _, n + 1, .cons _ t => by simp; exact RpAll.drop n t
theorem RpAll.set {K : PySem.W.Frag} {H : Hp} {M : Addr → Prop} {v : V} {d : D} (q : Rp K H M v d) : ∀ {vs : List V} {ds : List D} (i : Nat), RpAll K H M vs ds → RpAll K H M (vs.set i v) (ds.set i d)
  | _, _, _, .nil => .nil
  | _, _, 0, .cons _ t => .cons q t
  | _, _, i + 1, .cons r t => .cons r (RpAll.set q i t)
theorem RpAll.reverse {K : PySem.W.Frag} {H : Hp} {M : Addr → Prop} : ∀ {vs : List V} {ds : List D}, RpAll K H M vs ds → RpAll K H M vs.reverse ds.reverse
  | _, _, .nil => .nil
  | _, _, .cons r t => by simp; exact (RpAll.reverse t).append (.cons r .nil)
theorem RpT.list {K : PySem.W.Frag} {H : Hp} {M : Addr → Prop} {v : V} {ds : List D} (h : RpT K H M v (.list ds)) : ∃ a xs, v = .ref a ∧ Rd H a (.lst xs) ∧ RpAll K H M xs ds := by
  rcases h with h | ⟨a, xs, es, rfl, e, h, r⟩
  · cases h with
    | lst h n r => exact ⟨_, _, rfl, h, r⟩
  · cases e
    exact ⟨a, xs, rfl, h, r⟩
theorem RpT.tuple {K : PySem.W.Frag} {H : Hp} {M : Addr → Prop} {v : V} {ds : List D} (h : RpT K H M v (.tuple ds)) : ∃ a xs, v = .ref a ∧ SqT K H a xs ∧ RpAll K H M xs ds := by
  rcases h with h | ⟨a, xs, es, rfl, e, h, r⟩
  · cases h with
    | tup h r => exact ⟨_, _, rfl, h, r⟩
  · cases e
theorem RpT.int {K : PySem.W.Frag} {H : Hp} {M : Addr → Prop} {v : V} {i : Int} (h : RpT K H M v (.int i)) : v = .int i := by
  rcases h with h | ⟨a, xs, es, rfl, e, h, r⟩
  · cases h; rfl
  · cases e
theorem RpT.bl {K : PySem.W.Frag} {H : Hp} {M : Addr → Prop} {v : V} {i : Bool} (h : RpT K H M v (.bool i)) : v = .bl i := by
  rcases h with h | ⟨a, xs, es, rfl, e, h, r⟩
  · cases h; rfl
  · cases e
theorem RpT.str {K : PySem.W.Frag} {H : Hp} {M : Addr → Prop} {v : V} {i : Str} (h : RpT K H M v (.str i)) : v = .str i := by
  rcases h with h | ⟨a, xs, es, rfl, e, h, r⟩
  · cases h; rfl
  · cases e
theorem RpT.none {K : PySem.W.Frag} {H : Hp} {M : Addr → Prop} {v : V} (h : RpT K H M v .none) : v = .non := by
  rcases h with h | ⟨a, xs, es, rfl, e, h, r⟩
  · cases h; rfl
  · cases e
theorem RpT.nodict {K : PySem.W.Frag} {H : Hp} {M : Addr → Prop} {v : V} {kvs : List (D × D)} (h : RpT K H M v (.dict kvs)) : False := by
  rcases h with h | ⟨a, xs, es, rfl, e, h, r⟩
  · cases h
  · cases e

/-! ### the store -/
def CellOk (C : Cv) (H : Hp) (α : Al) (μ : Sto) (a : Addr) : Cell → Prop
  | .lst l => ∃ xs, H a = some (.lst xs) ∧ RpAll C.K H (Own α μ) xs l
  | .ins c fs => ∃ A dx gs, C.mg c = some (.ref A) ∧ H a = some (.ins A dx gs) ∧ gs.map (·.1) = fs.map (·.1) ∧ RpAll C.K H (Own α μ) (gs.map (·.2)) (fs.map (·.2))
structure Stor (C : Cv) (H : Hp) (α : Al) (μ : Sto) : Prop where
  len : α.own.length = μ.length
  nd : (α.own ++ α.hid).Nodup
  there : ∀ a ∈ α.own ++ α.hid, ∃ o, H a = some o ∧ NT o
  cell : ∀ (k : Nat) (c : Cell), μ[k]? = some (some c) → ∃ a, α.own[k]? = some a ∧ CellOk C H α μ a c
  tabs : LamX.Tabs C.T H
structure Step (H : Hp) (α : Al) (μ : Sto) (H' : Hp) (α' : Al) (μ' : Sto) : Prop where
  ext : Ext H (Own α μ) H' (Own α' μ')
  pre : ∀ (k : Nat) (a : Addr), α.own[k]? = some a → α'.own[k]? = some a
  hid : α'.hid = α.hid
  keep : ∀ b ∈ α.hid, H' b = H b
theorem Step.refl (H : Hp) (α : Al) (μ : Sto) : Step H α μ H α μ := ⟨.refl _ _, fun _ _ h => h, rfl, fun _ _ => rfl⟩
theorem Step.trans {H H1 H2 : Hp} {α α1 α2 : Al} {μ μ1 μ2 : Sto} (a : Step H α μ H1 α1 μ1) (b : Step H1 α1 μ1 H2 α2 μ2) : Step H α μ H2 α2 μ2 :=
  ⟨a.ext.trans b.ext, fun k x h => b.pre k x (a.pre k x h), b.hid.trans a.hid, fun c h => (b.keep c (by rw [a.hid]; exact h)).trans (a.keep c h)⟩
theorem RpE.ext {C : Cv} {H H' : Hp} {M M' : Addr → Prop} (e : Ext H M H' M') {v : V} {c : Str} : ∀ {y : Xy}, RpE C H M v c y → RpE C H' M' v c y
  | .msg _, ⟨a, A, t, h1, h2, h3, h4, h5⟩ => ⟨a, A, t, h1, h2, (e.any _ _ h3 h4 (fun _ z => by have z' : HO.ext _ = HO.tbl _ := z; cases z')).1, (e.any _ _ h3 h4 (fun _ z => by have z' : HO.ext _ = HO.tbl _ := z; cases z')).2, e.tup _ _ h5⟩
  | .lim _, ⟨a, A, dx, u, h1, h2, h3, h4, h5, h6, h7⟩ => ⟨a, A, dx, u, h1, h2, (e.any _ _ h3 h4 (fun _ z => exo_tbl z)).1, (e.any _ _ h3 h4 (fun _ z => exo_tbl z)).2, (e.any _ _ h5 h6 (fun _ z => by have z' : HO.ext _ = HO.tbl _ := z; cases z')).1, (e.any _ _ h5 h6 (fun _ z => by have z' : HO.ext _ = HO.tbl _ := z; cases z')).2, h7.ext e⟩
theorem RpEs.ext {C : Cv} {H H' : Hp} {M M' : Addr → Prop} (e : Ext H M H' M') : ∀ {vs : List V} {l : List (Str × Xy)}, RpEs C H M vs l → RpEs C H' M' vs l
  | _, _, .nil => .nil
  | _, _, .cons h t => .cons (h.ext e) (t.ext e)
theorem RpW.exte {C : Cv} {H H' : Hp} {α α' : Al} {μ μ' : Sto} (e : Ext H (Own α μ) H' (Own α' μ')) {v : V} {c : Str} {y : Xy} (h : RpW C H α μ v (.e c y)) : RpW C H' α' μ' v (.e c y) := RpE.ext e h
theorem RpW.extes {C : Cv} {H H' : Hp} {α α' : Al} {μ μ' : Sto} (e : Ext H (Own α μ) H' (Own α' μ')) {v : V} {l : List (Str × Xy)} (h : RpW C H α μ v (.es l)) : RpW C H' α' μ' v (.es l) := by
  obtain ⟨a, vs, h1, h2, h3, h4⟩ := h
  exact ⟨a, vs, h1, (e.rd h2 h3).1, (e.rd h2 h3).2, h4.ext e⟩
theorem RpW.step {C : Cv} {H H' : Hp} {α α' : Al} {μ μ' : Sto} (st : Step H α μ H' α' μ') {v : V} : ∀ {w : W}, RpW C H α μ v w → RpW C H' α' μ' v w
  | .d _, h => Rp.ext st.ext h
  | .m _, ⟨a, h, e⟩ => ⟨a, st.pre _ _ h, e⟩
  | .f _, h => h
  | .x _, h => h
  | .e _ _, h => RpW.exte st.ext h
  | .es _, h => RpW.extes st.ext h
theorem RpWs.step {C : Cv} {H H' : Hp} {α α' : Al} {μ μ' : Sto} (st : Step H α μ H' α' μ') : ∀ {vs : List V} {ws : List W}, RpWs C H α μ vs ws → RpWs C H' α' μ' vs ws
  | _, _, .nil => .nil
  | _, _, .cons h t => .cons (h.step st) (t.step st)
theorem RpWs.length {C : Cv} {H : Hp} {α : Al} {μ : Sto} : ∀ {vs : List V} {ws : List W}, RpWs C H α μ vs ws → vs.length = ws.length
  | _, _, .nil => rfl
  | _, _, .cons _ t => congrArg (· + 1) (RpWs.length t)
theorem mlist_at {μ : Sto} {k : Nat} {l : List D} (h : mlist μ k = some l) : μ[k]? = some (some (.lst l)) := by
  unfold mlist at h
  split at h
  · rename_i l' e
    cases h
    exact e
  · cases h
theorem RpW.view {C : Cv} {H : Hp} {α : Al} {μ : Sto} (S : Stor C H α μ) {v : V} {w : W} {d : D} (h : RpW C H α μ v w) (e : view μ w = some d) : RpT C.K H (Own α μ) v d := by
  cases w with
  | d d' => cases e; exact .inl h
  | f x => cases e
  | x a => cases e
  | e c y => cases e
  | es l => cases e
  | m k =>
    obtain ⟨a, ha, rfl⟩ := h
    cases hk : mlist μ k with
    | none => simp [Mi.view, hk] at e
    | some l =>
      simp [Mi.view, hk] at e
      subst e
      obtain ⟨a', ha', xs, hx, r⟩ := S.cell k _ (mlist_at hk)
      rw [ha] at ha'; cases ha'
      exact .inr ⟨a, xs, l, rfl, rfl, .inl hx, r⟩
theorem Stor.own_ne {C : Cv} {H : Hp} {α : Al} {μ : Sto} (S : Stor C H α μ) {a : Addr} (h : H a = none) : ¬ Own α μ a := fun z => by
  have hm : a ∈ α.own ++ α.hid := by
    rcases z with ⟨k, c, h1, h2⟩ | z
    · exact List.mem_append_left _ (List.mem_of_getElem? h1)
    · exact List.mem_append_right _ z
  obtain ⟨o, e, _⟩ := S.there a hm
  rw [h] at e; cases e
/-- all that was tracked is as it was -/
theorem Same.ext {H H' : Hp} (e : Same H H') (M : Addr → Prop) : Ext H M H' M := ⟨fun b o h n _ => ⟨e b o h, n⟩, fun b xs h => e _ _ h, fun b o u h => e _ _ h⟩
theorem same_upd {H : Hp} {p : Addr} {o : HO} (h : H p = none) : Same H (upd H p o) := fun b x e => by
  rw [upd_ne (ne_of_none e h)]
  exact e
theorem Same.step {C : Cv} {H H' : Hp} {α : Al} {μ : Sto} (S : Stor C H α μ) (e : Same H H') : Step H α μ H' α μ :=
  ⟨Same.ext e _, fun _ _ h => h, rfl, fun b hb => by obtain ⟨o, q, _⟩ := S.there b (List.mem_append_right _ hb); rw [q]; exact e b o q⟩
theorem Stor.same {C : Cv} {H H' : Hp} {α : Al} {μ : Sto} (S : Stor C H α μ) (e : Same H H') : Stor C H' α μ where
  len := S.len
  nd := S.nd
  there := fun a h => let ⟨o, q, n⟩ := S.there a h; ⟨o, e _ _ q, n⟩
  cell := fun k c h => by
    obtain ⟨a, ha, hc⟩ := S.cell k c h
    refine ⟨a, ha, ?_⟩
    cases c with
    | lst l => obtain ⟨xs, h1, h2⟩ := hc; exact ⟨xs, e _ _ h1, h2.ext (Same.ext e _)⟩
    | ins c fs => obtain ⟨A, dx, gs, h1, h2, h3, h4⟩ := hc; exact ⟨A, dx, gs, h1, e _ _ h2, h3, h4.ext (Same.ext e _)⟩
  tabs := S.tabs.ext e
/-- slots -/
structure Sl (C : Cv) (H : Hp) (α : Al) (μ : Sto) (σ : L2.St) (ρ : Mi.Env) : Prop where
  len : ρ.length = σ.length
  at_ : ∀ (i : Nat) (w : W), ρ[i]? = some (some w) → ∃ v, σ[i]? = some (some v) ∧ RpW C H α μ v w
theorem Sl.step {C : Cv} {H H' : Hp} {α α' : Al} {μ μ' : Sto} {σ : L2.St} {ρ : Mi.Env} (st : Step H α μ H' α' μ') (s : Sl C H α μ σ ρ) : Sl C H' α' μ' σ ρ :=
  ⟨s.len, fun i w h => by obtain ⟨v, h1, h2⟩ := s.at_ i w h; exact ⟨v, h1, h2.step st⟩⟩
theorem Sl.set {C : Cv} {H : Hp} {α : Al} {μ : Sto} {σ : L2.St} {ρ : Mi.Env} (s : Sl C H α μ σ ρ) {v : V} {w : W} (r : RpW C H α μ v w) (i : Nat) : Sl C H α μ (σ.set i (some v)) (ρ.set i (some w)) := by
  refine ⟨by simp [s.len], fun j u h => ?_⟩
  by_cases e : i = j
  · subst e
    rw [List.getElem?_set] at h
    simp only [if_true] at h
    split at h
    · rename_i hl
      cases h
      refine ⟨v, ?_, r⟩
      rw [List.getElem?_set]
      simp [← s.len, hl]
    · cases h
  · rw [List.getElem?_set_ne e] at h
    obtain ⟨v', h1, h2⟩ := s.at_ j u h
    exact ⟨v', by rw [List.getElem?_set_ne e]; exact h1, h2⟩
theorem Sl.wipe {C : Cv} {H : Hp} {α : Al} {μ : Sto} {σ : L2.St} {ρ : Mi.Env} (s : Sl C H α μ σ ρ) : ∀ vs : List Nat, Sl C H α μ (L2.wipe σ vs) (wipeE ρ vs)
  | [] => s
  | i :: r => by
    have q := Sl.wipe s r
    refine ⟨?_, fun j u h => ?_⟩
    · rw [L2.wipe_length]
      show ((wipeE ρ r).set i none).length = _
      rw [List.length_set, q.len, L2.wipe_length]
    · have h : ((wipeE ρ r).set i none)[j]? = some (some u) := h
      by_cases e : i = j
      · subst e
        rw [List.getElem?_set] at h
        simp only [if_true] at h
        split at h <;> cases h
      · rw [List.getElem?_set_ne e] at h
        obtain ⟨v', h1, h2⟩ := q.at_ j u h
        refine ⟨v', ?_, h2⟩
        show (L2.wipe σ (i :: r))[j]? = _
        unfold L2.wipe
        rw [List.getElem?_set_ne e]
        exact h1
/-- an exception -/
def RpX (C : Cv) (H : Hp) (cls : Value) (d : Option Addr) (x : Exn) : Prop := C.mg x.cls = some cls ∧ match x.arg with
  | none => d = none
  | some y => ∃ a v, d = some a ∧ H a = some (.xd [("limit", v)]) ∧ Rp C.K H (fun _ => False) v y

/-! ### readings -/
def PQ (C : Cv) (E : XK) (Q : VK) (H : Hp) (α : Al) (μ : Sto) : R W → Prop
  | .ok w μ' => ∀ v H' α', Step H α μ H' α' μ' → Stor C H' α' μ' → RpW C H' α' μ' v w → Q v H'
  | .er x μ' => ∀ cls d H' α', Step H α μ H' α' μ' → Stor C H' α' μ' → RpX C H' cls d x → E cls d H'
  | .no => False
theorem PQ.step {C : Cv} {E : XK} {Q : VK} {H H1 : Hp} {α α1 : Al} {μ μ1 : Sto} {r : R W} (h : PQ C E Q H α μ r) (st : Step H α μ H1 α1 μ1) : PQ C E Q H1 α1 μ1 r := by
  cases r with
  | ok w μ' => exact fun v H' α' s S q => h v H' α' (st.trans s) S q
  | er x μ' => exact fun cls d H' α' s S q => h cls d H' α' (st.trans s) S q
  | no => exact h
def tD (C : Cv) (E : XK) (f : EF) : TE := fun σ H Q => ∃ ρ α μ, Stor C H α μ ∧ Sl C H α μ σ ρ ∧ PQ C E Q H α μ (f ρ μ)
/-- the workhorse -/
theorem tD_bind {C : Cv} {E : XK} {Q Q' : VK} {H : Hp} {α : Al} {μ : Sto} {σ : L2.St} {ρ : Mi.Env} {f : EF} {k : W → Sto → R W} (S : Stor C H α μ) (sl : Sl C H α μ σ ρ) (h : PQ C E Q H α μ ((f ρ μ).bind k))
    (cont : ∀ v w H1 α1 μ1, Step H α μ H1 α1 μ1 → Stor C H1 α1 μ1 → Sl C H1 α1 μ1 σ ρ → RpW C H1 α1 μ1 v w → PQ C E Q H1 α1 μ1 (k w μ1) → Q' v H1) : tD C E f σ H Q' := by
  refine ⟨ρ, α, μ, S, sl, ?_⟩
  cases e : f ρ μ with
  | ok w μ1 =>
    rw [e] at h
    exact fun v H1 α1 st S1 r => cont v w H1 α1 μ1 st S1 (sl.step st) r (PQ.step (r := k w μ1) h st)
  | er x μ1 => rw [e] at h; exact h
  | no => rw [e] at h; exact (show False from h).elim
end L3

set_option Elab.async false
set_option linter.all false
set_option maxRecDepth 100000
/-! One rule a construct: the machine does what the mirror says. -/
namespace L3
open PySem PySem.Spec PyProof.Rows L2 Mi

abbrev CvX (X : Cx) (T : List (Addr × Str)) : Cv := ⟨X.K, X.mg, T⟩
/-- what the rules ask of the context: j calls deep there is room; E: the wish about exceptions -/
structure CK (X : Cx) (E : XK) (j : Nat) : Prop where
  calm : X.calm = true
  nd : X.N.Nodup
  room : Room j X.A
  takes : L2N.Takes X (fun cls d _ H => E cls d H)
theorem CK.passes {X : Cx} {E : XK} {j : Nat} (c : CK X E j) : Passes (L2N.CX X.prog X.w) X E := L2N.passes_call c.takes fun _ _ _ _ h => h
theorem CK.hu {X : Cx} {E : XK} {j : Nat} (c : CK X E j) : X.A.units + 64 < cLine := c.room.units
def DE (X : Cx) (T : List (Addr × Str)) (E : XK) (e : Expr) (f : EF) : Prop := PE X e (tD (CvX X T) E f)
def DT (X : Cx) (T : List (Addr × Str)) (E : XK) (e : Expr) (f : EF) : Prop := PT X e (fun σ H Q => tD (CvX X T) E f σ H fun v H1 => ∃ b, v = .bl b ∧ Q b H1)
def DW (X : Cx) (T : List (Addr × Str)) (E : XK) (e : Expr) (f : EF) : Prop := PW X e (fun σ H Q => tD (CvX X T) E f σ H fun v H1 => ∃ b, v = .bl b ∧ Q b H1)
theorem pe_imp {X : Cx} {e : Expr} {t t' : TE} (h : PE X e t) (i : ∀ σ H Q, t' σ H Q → t σ H Q) : PE X e t' := ⟨fun pins s σ H Q I q => h.run pins s σ H Q I (i _ _ _ q)⟩
/-- the same, told of the very state -/
theorem pe_impI {X : Cx} {e : Expr} {t t' : TE} (h : PE X e t) (i : ∀ pins s σ H Q, Inv X pins σ H s → t' σ H Q → t σ H Q) : PE X e t' := ⟨fun pins s σ H Q I q => h.run pins s σ H Q I (i _ _ _ _ _ I q)⟩
theorem pt_imp {X : Cx} {e : Expr} {t t' : TT} (h : PT X e t) (i : ∀ σ H Q, t' σ H Q → t σ H Q) : PT X e t' := ⟨fun pins s σ H Q I q => h.run pins s σ H Q I (i _ _ _ q)⟩
theorem pw_imp {X : Cx} {e : Expr} {t t' : TT} (h : PW X e t) (i : ∀ σ H Q, t' σ H Q → t σ H Q) : PW X e t' := ⟨fun wh pins s σ H Q I q => h.run wh pins s σ H Q I (i _ _ _ q)⟩
theorem ps_imp {X : Cx} {e : Stmt} {t t' : TS} (h : PS X e t) (i : ∀ D σ H, t' D σ H → t D σ H) : PS X e t' := ⟨fun pins s σ H D I q => h.run pins s σ H D I (i _ _ _ q)⟩
theorem pss_imp {X : Cx} {e : List Stmt} {t t' : TS} (h : PSs X e t) (i : ∀ D σ H, t' D σ H → t D σ H) : PSs X e t' := ⟨fun pins s σ H D I q => h.run pins s σ H D I (i _ _ _ q)⟩

section
variable {C : Cv} {E : XK} {Q Q' : VK} {H : Hp} {α : Al} {μ : Sto} {σ : L2.St} {ρ : Mi.Env} {f : EF}
/-- the end of a value -/
theorem PQ.ok {v : V} {w : W} (S : Stor C H α μ) (r : RpW C H α μ v w) (h : PQ C E Q H α μ (.ok w μ)) : Q v H := h v H α (.refl _ _ _) S r
theorem tD_mono (h : tD C E f σ H Q) (hQ : ∀ v H', Q v H' → Q' v H') : tD C E f σ H Q' := by
  obtain ⟨ρ, α, μ, S, sl, q⟩ := h
  refine ⟨ρ, α, μ, S, sl, ?_⟩
  cases e : f ρ μ with
  | ok w μ1 => rw [e] at q; exact fun v H' α' st S' r => hQ _ _ (q v H' α' st S' r)
  | er x μ1 => rw [e] at q; exact q
  | no => rw [e] at q; exact q
/-- an end by a value that is known from an option -/
theorem PQ.ofO {o : Option W} (h : PQ C E Q H α μ (ofO o μ)) : ∃ w, o = some w ∧ PQ C E Q H α μ (.ok w μ) := by
  cases o with
  | none => exact (show False from h).elim
  | some w => exact ⟨w, rfl, h⟩
theorem PQ.test {r : R W} {k : Bool → Sto → R W} (h : PQ C E Q H α μ (r.test k)) : PQ C E Q H α μ (r.bind fun w μ1 => match isB w with | some b => k b μ1 | none => .no) := h
end
/-- tests: behind a bool -/
theorem tD_test {C : Cv} {E : XK} {Q Q' : VK} {H : Hp} {α : Al} {μ : Sto} {σ : L2.St} {ρ : Mi.Env} {f : EF} {k : Bool → Sto → R W} (S : Stor C H α μ) (sl : Sl C H α μ σ ρ) (h : PQ C E Q H α μ ((f ρ μ).test k))
    (cont : ∀ b H1 α1 μ1, Step H α μ H1 α1 μ1 → Stor C H1 α1 μ1 → Sl C H1 α1 μ1 σ ρ → PQ C E Q H1 α1 μ1 (k b μ1) → Q' (.bl b) H1) : tD C E f σ H Q' := by
  refine tD_bind S sl h fun v w H1 α1 μ1 st S1 sl1 r q => ?_
  cases w with
  | d d =>
    cases d with
    | bool b => cases r; exact cont b H1 α1 μ1 st S1 sl1 q
    | none => exact (show False from q).elim
    | int i => exact (show False from q).elim
    | str i => exact (show False from q).elim
    | list i => exact (show False from q).elim
    | tuple i => exact (show False from q).elim
    | dict i => exact (show False from q).elim
  | m k => exact (show False from q).elim
  | f k => exact (show False from q).elim
  | x k => exact (show False from q).elim
  | e _ _ => exact (show False from q).elim
  | es _ => exact (show False from q).elim

section
variable {X : Cx} {T : List (Addr × Str)} {E : XK} {j : Nat} {pos : Pos} {a b c : Expr} {f g h : EF}
/-! ### names, constants -/
theorem de_var (i : Nat) {x : Str} (hN : X.N[i]? = some x := by rfl) (hv : Vis X.env.scope x := by first | exact Or.inl rfl | exact Or.inr (Or.inl rfl) | exact Or.inr (Or.inr rfl)) (hd : (x == ("__debug__" : Str)) = false := by decide)
    (hcd : (x == ("__classdict__" : Str)) = false := by decide) : DE X T E (.Name x pos) (eVar i) := by
  refine pe_imp (pe_var hN hv hd hcd) fun σ H Q ⟨ρ, α, μ, S, sl, q⟩ => ?_
  unfold eVar at q
  split at q
  · rename_i w e
    obtain ⟨v, h1, h2⟩ := sl.at_ i w e
    exact ⟨v, h1, PQ.ok S h2 q⟩
  · exact (show False from q).elim
theorem de_c {e : Expr} {v : V} {d : D} (h : PE X e (tC v)) (r : ∀ K H M, Rp K H M v d) : DE X T E e (eC d) :=
  pe_imp h fun σ H Q ⟨ρ, α, μ, S, sl, q⟩ => PQ.ok (w := .d d) S (r _ _ _) q
theorem de_int {i : Int} {j' : Nat} : DE X T E (.Constant (.int i) j' pos) (eInt i) := de_c pe_int fun _ _ _ => .int i
theorem de_str {x : Str} {j' : Nat} : DE X T E (.Constant (.str x) j' pos) (eStr x) := de_c pe_str fun _ _ _ => .str x
theorem de_bl {x : Bool} {j' : Nat} : DE X T E (.Constant (.bool x) j' pos) (eBl x) := de_c pe_bl fun _ _ _ => .bl x
theorem de_non {j' : Nat} : DE X T E (.Constant .none j' pos) eNon := de_c pe_non fun _ _ _ => .non
/-- a module's int -/
theorem de_gint {x : Str} {i : Int} (hm : ∃ t, X.mg x = some (.int i t)) (hg : Gl X x := by rfl) (hd : (x == ("__debug__" : Str)) = false := by decide) : DE X T E (.Name x pos) (eInt i) := by
  obtain ⟨t, hm⟩ := hm
  exact de_c (pe_glob hg hm (v := .int i) ⟨t, rfl⟩ hd) fun _ _ _ => .int i
/-- a def or a class of the text, as a value -/
theorem de_fn {x : Str} {A : Addr} (hm : X.mg x = some (.ref A)) (hg : Gl X x := by rfl) (hd : (x == ("__debug__" : Str)) = false := by decide) : DE X T E (.Name x pos) (eFn x) :=
  pe_imp (pe_glob hg hm (v := .ref A) rfl hd) fun σ H Q ⟨ρ, α, μ, S, sl, q⟩ => PQ.ok (w := .f x) S ⟨A, hm, rfl⟩ q

/-! ### operators -/
/-- a rule of the machine serves an operator of the mirror -/
def OpS (C : Cv) (op : D → D → Option D) (r : R2) : Prop := ∀ H α μ x y a b z Q, Stor C H α μ → RpT C.K H (Own α μ) x a → RpT C.K H (Own α μ) y b → op a b = some z → (∀ v H', Same H H' → Rp C.K H' (Own α μ) v z → Q v H') → r x y H Q
def UnS (C : Cv) (op : D → Option D) (r : V → Hp → VK → Prop) : Prop := ∀ H α μ x a z Q, Stor C H α μ → RpT C.K H (Own α μ) x a → op a = some z → (∀ v H', Same H H' → Rp C.K H' (Own α μ) v z → Q v H') → r x H Q
theorem OpS.fin {C : Cv} {op : D → D → Option D} {r : R2} (hs : OpS C op r) {H : Hp} {α : Al} {μ : Sto} {x y : V} {w u : W} {Q : VK} (S : Stor C H α μ) (rx : RpW C H α μ x w) (ry : RpW C H α μ y u)
    (q : PQ C E Q H α μ (ofO ((view μ w).bind fun a => (view μ u).bind fun b => (op a b).map W.d) μ)) : r x y H Q := by
  obtain ⟨z, e, q⟩ := PQ.ofO q
  cases e1 : view μ w with
  | none => rw [e1] at e; cases e
  | some a =>
    rw [e1] at e
    cases e2 : view μ u with
    | none => simp [e2] at e
    | some b =>
      simp only [e2, Option.bind_some] at e
      cases e3 : op a b with
      | none => rw [e3] at e; cases e
      | some d =>
        rw [e3] at e
        cases e
        exact hs H α μ x y a b d Q S (rx.view S e1) (ry.view S e2) e3 fun v H' sm rv => q v H' α (Same.step S sm) (S.same sm) rv
theorem UnS.fin {C : Cv} {op : D → Option D} {r : V → Hp → VK → Prop} (hs : UnS C op r) {H : Hp} {α : Al} {μ : Sto} {x : V} {w : W} {Q : VK} (S : Stor C H α μ) (rx : RpW C H α μ x w)
    (q : PQ C E Q H α μ (ofO ((view μ w).bind fun a => (op a).map W.d) μ)) : r x H Q := by
  obtain ⟨z, e, q⟩ := PQ.ofO q
  cases e1 : view μ w with
  | none => rw [e1] at e; cases e
  | some a =>
    simp only [e1, Option.bind_some] at e
    cases e3 : op a with
    | none => rw [e3] at e; cases e
    | some d =>
      rw [e3] at e
      cases e
      exact hs H α μ x a d Q S (rx.view S e1) e3 fun v H' sm rv => q v H' α (Same.step S sm) (S.same sm) rv
theorem op_rd {C : Cv} {op : D → D → Option D} {r : R2} (hs : OpS C op r) {σ : L2.St} {H : Hp} {Q : VK} (q : tD C E (eOp op f g) σ H Q) : tOp r (tD C E f) (tD C E g) σ H Q := by
  obtain ⟨ρ, α, μ, S, sl, q⟩ := q
  refine tD_bind S sl q fun v w H1 α1 μ1 st1 S1 sl1 r1 q1 => ?_
  exact tD_bind S1 sl1 q1 fun u w2 H2 α2 μ2 st2 S2 sl2 r2 q2 => hs.fin S2 (r1.step st2) r2 q2
theorem de_op {o : Operator} {op : D → D → Option D} {r : R2} (ho : OpR X (binaryOp o) r) (hs : OpS (CvX X T) op r) (ha : DE X T E a f) (hb : DE X T E b g) : DE X T E (.BinOp a o b pos) (eOp op f g) :=
  pe_imp (pe_op ho ha hb) fun σ H Q q => op_rd hs q
theorem de_un {o : UnaryOp} {op : D → Option D} {r : V → Hp → VK → Prop} (ho : UnR X (unaryOp o) r) (hs : UnS (CvX X T) op r) (ha : DE X T E a f) : DE X T E (.UnaryOp o a pos) (eUn op f) :=
  pe_imp (pe_un ho ha) fun σ H Q ⟨ρ, α, μ, S, sl, q⟩ => tD_bind S sl q fun v w H1 α1 μ1 st1 S1 sl1 r1 q1 => hs.fin S1 r1 q1
theorem de_cmp {o : CmpOp} {op : D → D → Option D} {r : R2} (ho : OpR X (compareOp o) r) (hs : OpS (CvX X T) op r) (ha : DE X T E a f) (hb : DE X T E b g) (hm : behindInMarks o b = false := by first | exact nomark _ (by decide) (by decide) | with_unfolding_all rfl) : DE X T E (.Compare a [o] [b] pos) (eOp op f g) :=
  pe_imp (pe_cmpR ho ha hb hm) fun σ H Q q => op_rd hs q
theorem dt_cmp {o : CmpOp} {op : D → D → Option D} {r : R2} (ho : OpR X (compareOp o) r) (hs : OpS (CvX X T) op r) (ha : DE X T E a f) (hb : DE X T E b g) (hm : behindInMarks o b = false := by first | exact nomark _ (by decide) (by decide) | with_unfolding_all rfl) : DT X T E (.Compare a [o] [b] pos) (eOp op f g) :=
  pt_imp (pt_cmpR ho ha hb hm) fun σ H Q q => op_rd hs q
theorem chain_rd {C : Cv} {op op' : D → D → Option D} {r r' : R2} (hs : OpS C op r) (hs' : OpS C op' r') {σ : L2.St} {H : Hp} {Q : VK} (q : tD C E (eChain op op' f g h) σ H Q) : tChain r r' (tD C E f) (tD C E g) (tD C E h) σ H Q := by
  obtain ⟨ρ, α, μ, S, sl, q⟩ := q
  refine tD_bind S sl q fun v w H1 α1 μ1 st1 S1 sl1 r1 q1 => ?_
  refine tD_bind S1 sl1 q1 fun u w2 H2 α2 μ2 st2 S2 sl2 r2 q2 => ?_
  have rv := r1.step st2
  cases e1 : view μ2 w with
  | none => simp [e1, ofO, R.test] at q2; exact (show False from q2).elim
  | some x =>
    cases e2 : view μ2 w2 with
    | none => simp [e1, e2, ofO, R.test] at q2; exact (show False from q2).elim
    | some y =>
      cases e3 : op x y with
      | none => simp [e1, e2, e3, ofO, R.test] at q2; exact (show False from q2).elim
      | some z =>
        simp only [e1, e2, e3, Option.bind_some, Option.map_some, ofO_some] at q2
        refine hs H2 α2 μ2 v u x y z _ S2 (rv.view S2 e1) (r2.view S2 e2) e3 fun v3 H3 sm rz => ?_
        cases z with
        | bool k =>
          cases rz
          refine ⟨k, rfl, ?_⟩
          have S3 := S2.same sm
          have st3 : Step H2 α2 μ2 H3 α2 μ2 := Same.step S2 sm
          have q3 := PQ.step q2 st3
          have sl3 := sl2.step st3
          cases k with
          | true =>
            rw [if_pos rfl]
            exact tD_bind S3 sl3 q3 fun v4 w4 H4 α4 μ4 st4 S4 sl4 r4 q4 => hs'.fin S4 ((r2.step st3).step st4) r4 q4
          | false =>
            rw [if_neg Bool.false_ne_true]
            exact PQ.ok (w := .d (.bool false)) S3 (.bl false) q3
        | none => exact (show False from q2).elim
        | int i => exact (show False from q2).elim
        | str i => exact (show False from q2).elim
        | list i => exact (show False from q2).elim
        | tuple i => exact (show False from q2).elim
        | dict i => exact (show False from q2).elim
theorem de_chain {o o' : CmpOp} {op op' : D → D → Option D} {r r' : R2} (ho : OpR X (compareOp o) r) (hs : OpS (CvX X T) op r) (ho' : OpR X (compareOp o') r') (hs' : OpS (CvX X T) op' r') (ha : DE X T E a f) (hb : DE X T E b g) (hc : DE X T E c h)
    (hm : lastMarks [o, o'] [b, c] = false := by with_unfolding_all rfl) : DE X T E (.Compare a [o, o'] [b, c] pos) (eChain op op' f g h) :=
  pe_imp (pe_chain ho ho' ha hb hc hm) fun σ H Q q => chain_rd hs hs' q

theorem chain_test {C : Cv} {op op' : D → D → Option D} {r r' : R2} (hs : OpS C op r) (hs' : OpS C op' r') {σ : L2.St} {H : Hp} {Q : Bool → Hp → Prop} (q : tD C E (eChain op op' f g h) σ H fun v H1 => ∃ b, v = .bl b ∧ Q b H1) : tTest (tChain r r' (tD C E f) (tD C E g) (tD C E h)) σ H Q := chain_rd hs hs' q
theorem dt_chain {o o' : CmpOp} {op op' : D → D → Option D} {r r' : R2} (ho : OpR X (compareOp o) r) (hs : OpS (CvX X T) op r) (ho' : OpR X (compareOp o') r') (hs' : OpS (CvX X T) op' r') (ha : DE X T E a f) (hb : DE X T E b g) (hc : DE X T E c h)
    (hm : lastMarks [o, o'] [b, c] = false := by with_unfolding_all rfl) : DT X T E (.Compare a [o, o'] [b, c] pos) (eChain op op' f g h) :=
  pt_imp (pt_chain ho ho' ha hb hc hm) fun σ H Q q => chain_test hs hs' q

/-! ### and, or, not, if -/
theorem dt_val (ha : DE X T E a f) (he : ∀ whole, isTrue a X.env whole = (do let v ← whole; standAt a.pos; holding [v] (truthy v)) := by intro _; rfl) : DT X T E a f :=
  pt_imp (pt_val ha he) fun σ H Q q => tD_mono q fun v H' z => z
theorem dt_w (h : DW X T E a f) : DT X T E a f := PW.pt h
theorem de_one {o : BoolOp} (ha : DE X T E a f) : DE X T E (.BoolOp o [a] pos) f := pe_one ha
theorem dw_and1 (ha : DT X T E a f) : DW X T E (.BoolOp .And [a] pos) f := pw_and1 ha
theorem dw_or1 (ha : DT X T E a f) : DW X T E (.BoolOp .Or [a] pos) f := pw_or1 ha
variable {rest : List Expr}
theorem PQ.bl {C : Cv} {Q : VK} {H : Hp} {α : Al} {μ : Sto} {b : Bool} (S : Stor C H α μ) (h : PQ C E Q H α μ (.ok (.d (.bool b)) μ)) : Q (.bl b) H := PQ.ok (w := .d (.bool b)) S (.bl b) h
theorem de_and (ha : DE X T E a f) (hb : DE X T E (.BoolOp .And (b :: rest) pos) g) : DE X T E (.BoolOp .And (a :: b :: rest) pos) (eAnd f g) :=
  pe_imp (pe_and ha hb) fun σ H Q ⟨ρ, α, μ, S, sl, q⟩ => tD_test S sl q fun k H1 α1 μ1 st S1 sl1 q1 => ⟨k, rfl, by
    cases k with
    | true => rw [if_pos rfl]; exact ⟨ρ, α1, μ1, S1, sl1, q1⟩
    | false => rw [if_neg Bool.false_ne_true]; exact PQ.bl S1 q1⟩
theorem de_or (ha : DE X T E a f) (hb : DE X T E (.BoolOp .Or (b :: rest) pos) g) : DE X T E (.BoolOp .Or (a :: b :: rest) pos) (eOr f g) :=
  pe_imp (pe_or ha hb) fun σ H Q ⟨ρ, α, μ, S, sl, q⟩ => tD_test S sl q fun k H1 α1 μ1 st S1 sl1 q1 => ⟨k, rfl, by
    cases k with
    | true => rw [if_pos rfl]; exact PQ.bl S1 q1
    | false => rw [if_neg Bool.false_ne_true]; exact ⟨ρ, α1, μ1, S1, sl1, q1⟩⟩
theorem dw_and (ha : DT X T E a f) (hb : DW X T E (.BoolOp .And (b :: rest) pos) g) : DW X T E (.BoolOp .And (a :: b :: rest) pos) (eAnd f g) :=
  pw_imp (pw_and ha hb) fun σ H Q ⟨ρ, α, μ, S, sl, q⟩ => tD_test S sl q fun k H1 α1 μ1 st S1 sl1 q1 => ⟨k, rfl, by
    cases k with
    | true => rw [if_pos rfl]; exact ⟨ρ, α1, μ1, S1, sl1, q1⟩
    | false =>
      rw [if_neg Bool.false_ne_true]
      obtain ⟨b, e, q⟩ := PQ.bl S1 q1
      cases e
      exact q⟩
theorem dw_or (ha : DT X T E a f) (hb : DW X T E (.BoolOp .Or (b :: rest) pos) g) : DW X T E (.BoolOp .Or (a :: b :: rest) pos) (eOr f g) :=
  pw_imp (pw_or ha hb) fun σ H Q ⟨ρ, α, μ, S, sl, q⟩ => tD_test S sl q fun k H1 α1 μ1 st S1 sl1 q1 => ⟨k, rfl, by
    cases k with
    | true =>
      rw [if_pos rfl]
      obtain ⟨b, e, q⟩ := PQ.bl S1 q1
      cases e
      exact q
    | false => rw [if_neg Bool.false_ne_true]; exact ⟨ρ, α1, μ1, S1, sl1, q1⟩⟩
theorem de_not (ha : DE X T E a f) : DE X T E (.UnaryOp .Not a pos) (eNot f) :=
  pe_imp (pe_not ha) fun σ H Q ⟨ρ, α, μ, S, sl, q⟩ => tD_test S sl q fun k H1 α1 μ1 st S1 sl1 q1 => ⟨k, rfl, PQ.bl S1 q1⟩
theorem dt_not (ha : DT X T E a f) : DT X T E (.UnaryOp .Not a pos) (eNot f) :=
  pt_imp (pt_not ha) fun σ H Q ⟨ρ, α, μ, S, sl, q⟩ => tD_test S sl q fun k H1 α1 μ1 st S1 sl1 q1 => ⟨k, rfl, by
    obtain ⟨b, e, q⟩ := PQ.bl S1 q1
    cases e
    exact q⟩
theorem de_if (hc : DT X T E c f) (ha : DE X T E a g) (hb : DE X T E b h) : DE X T E (.IfExp c a b pos) (eIf f g h) :=
  pe_imp (pe_ifExp hc ha hb) fun σ H Q ⟨ρ, α, μ, S, sl, q⟩ => tD_test S sl q fun k H1 α1 μ1 st S1 sl1 q1 => ⟨k, rfl, by
    cases k with
    | true => rw [if_pos rfl] at q1 ⊢; exact ⟨ρ, α1, μ1, S1, sl1, q1⟩
    | false => rw [if_neg Bool.false_ne_true] at q1 ⊢; exact ⟨ρ, α1, μ1, S1, sl1, q1⟩⟩
theorem rp_isNon {C : Cv} {H : Hp} {α : Al} {μ : Sto} {v : V} {w : W} (r : RpW C H α μ v w) : isNonW w = decide (v = .non) := by
  cases w with
  | d d => cases r <;> rfl
  | m k => obtain ⟨a, _, rfl⟩ := r; rfl
  | f k => obtain ⟨a, _, rfl⟩ := r; rfl
  | x k => obtain rfl := r; rfl
  | e c y =>
    cases y with
    | msg m => obtain ⟨a, _, _, rfl, _⟩ := r; rfl
    | lim d => obtain ⟨a, _, _, _, rfl, _⟩ := r; rfl
  | es l => obtain ⟨a, _, rfl, _⟩ := r; rfl
theorem de_isN {j' : Nat} {p' : Pos} (ha : DE X T E a f) : DE X T E (.Compare a [.Is] [.Constant .none j' p'] pos) (eIsN f) :=
  pe_imp (pe_cmp (pc_isN ha)) fun σ H Q ⟨ρ, α, μ, S, sl, q⟩ => tD_bind S sl q fun v w H1 α1 μ1 st S1 sl1 r q1 => by
    have z := PQ.bl S1 q1
    rw [rp_isNon r] at z
    exact z
theorem de_notN {j' : Nat} {p' : Pos} (ha : DE X T E a f) : DE X T E (.Compare a [.IsNot] [.Constant .none j' p'] pos) (eNotN f) :=
  pe_imp (pe_cmp (pc_notN ha)) fun σ H Q ⟨ρ, α, μ, S, sl, q⟩ => tD_bind S sl q fun v w H1 α1 μ1 st S1 sl1 r q1 => by
    have z := PQ.bl S1 q1
    rw [rp_isNon r] at z
    exact z
theorem dt_isN {j' : Nat} {p' : Pos} (ha : DE X T E a f) : DT X T E (.Compare a [.Is] [.Constant .none j' p'] pos) (eIsN f) :=
  pt_imp (pt_cmp (pc_isN ha)) fun σ H Q ⟨ρ, α, μ, S, sl, q⟩ => tD_bind S sl q fun v w H1 α1 μ1 st S1 sl1 r q1 => by
    have z := PQ.bl S1 q1
    rw [rp_isNon r] at z
    exact z
theorem dt_notN {j' : Nat} {p' : Pos} (ha : DE X T E a f) : DT X T E (.Compare a [.IsNot] [.Constant .none j' p'] pos) (eNotN f) :=
  pt_imp (pt_cmp (pc_notN ha)) fun σ H Q ⟨ρ, α, μ, S, sl, q⟩ => tD_bind S sl q fun v w H1 α1 μ1 st S1 sl1 r q1 => by
    have z := PQ.bl S1 q1
    rw [rp_isNon r] at z
    exact z
end
end L3

set_option Elab.async false
set_option linter.all false
set_option maxRecDepth 100000
/-! The operators. -/
namespace L3
open PySem PySem.Spec PyProof.Rows L2 Mi

section
variable {C : Cv} {H : Hp} {α : Al} {μ : Sto} {M : Addr → Prop} {K : PySem.W.Frag}
theorem lim_line {n : Nat} (h : n ≤ LIM) : n ≤ sizeLine := Nat.le_trans h (by decide)
/-- a new list, a new tuple -/
theorem rp_newL {p : Addr} {xs : List V} {ds : List D} (S : Stor C H α μ) (n : H p = none) (r : RpAll C.K H (Own α μ) xs ds) : Same H (upd H p (.lst xs)) ∧ Rp C.K (upd H p (.lst xs)) (Own α μ) (.ref p) (.list ds) :=
  ⟨same_upd n, .lst (.inl upd_same) (S.own_ne n) (r.ext (Same.ext (same_upd n) _))⟩
theorem rp_newT {p : Addr} {xs : List V} {ds : List D} (n : H p = none) (r : RpAll K H M xs ds) : Same H (upd H p (.tup xs)) ∧ Rp K (upd H p (.tup xs)) M (.ref p) (.tuple ds) :=
  ⟨same_upd n, .tup (.inl (.inl upd_same)) (r.ext (Same.ext (same_upd n) _))⟩
end

section
variable {X : Cx} {T : List (Addr × Str)} {C : Cv}
/-! ### + -/
def rCatR : R2 := fun x y H Q => ∃ l b xs zs, x = .ref l ∧ y = .ref b ∧ Rd H l (.lst xs) ∧ Rd H b (.lst zs) ∧ xs.length + zs.length ≤ sizeLine ∧ ∀ p, H p = none → Q (.ref p) (upd H p (.lst (xs ++ zs)))
theorem op_catR : OpR X (binaryOp .Add) rCatR := by
  intro pins s σ H x y v u Q I rx ry h
  obtain ⟨l, b, xs, zs, rfl, rfl, hH, hB, hz, q⟩ := h
  cases rx
  cases ry
  obtain ⟨z, its, n, r, e⟩ := hH.ok I.hok
  obtain ⟨z2, its2, n2, r2, e2⟩ := hB.ok I.hok
  have hl := r.length
  have hl2 := r2.length
  refine PySem.P.add_list e e2 ?_ (by rw [List.size_toArray, List.size_toArray]; omega)
  have ea : its.toArray ++ its2.toArray = (its ++ its2).toArray := by simp
  rw [ea]
  exact ⟨.ref _, _, I.lnew (t' := s.toks) (r.append r2) (by rw [List.length_append]; omega), rfl, q _ I.fresh⟩
def rBI (g : Int → Int → Int) : R2 := fun x y H Q => ∃ b i, x = .bl b ∧ y = .int i ∧ Q (.int (g (bI b) i)) H
theorem op_addBI : OpR X (binaryOp .Add) (rBI (· + ·)) := by
  intro pins s σ H x y v u Q I rx ry h
  obtain ⟨b, i, rfl, rfl, q⟩ := h
  cases rx
  obtain ⟨t, rfl⟩ := ry
  exact PySem.IntBool.add_bool_int ⟨.int (bI b + i), H, I.tok _, ⟨_, rfl⟩, q⟩
theorem op_subBI : OpR X (binaryOp .Sub) (rBI (· - ·)) := by
  intro pins s σ H x y v u Q I rx ry h
  obtain ⟨b, i, rfl, rfl, q⟩ := h
  cases rx
  obtain ⟨t, rfl⟩ := ry
  exact PySem.IntBool.sub_bool_int ⟨.int (bI b - i), H, I.tok _, ⟨_, rfl⟩, q⟩
def rSubA : R2 := fun x y H Q => (rI0 (fun i j => V.int (i - j)) x y H Q) ∨ rBI (· - ·) x y H Q
theorem op_subA : OpR X (binaryOp .Sub) rSubA := op_sub.or op_subBI
theorem gives_neg_bool (a : Bool) : Gives (Builtin.«int.__neg__» ⟨[.bool a], []⟩) (.int (-(bI a))) := .of_eq rfl
theorem un_negB : UnR X (unaryOp .USub) (fun x H Q => ∃ b, x = .bl b ∧ Q (.int (-(bI b))) H) := by
  intro pins s σ H x v Q I rx h
  obtain ⟨b, rfl, q⟩ := h
  cases rx
  exact unaryOp_gives (op := .USub) rfl rfl F.slot_bool_neg F.entry_int_neg (F.args_int_neg_1 _) (gives_neg_bool b) ⟨.int _, H, I.tok _, ⟨_, rfl⟩, q⟩
def rNegA : V → Hp → VK → Prop := fun x H Q => (rU (fun i => .int (-i)) x H Q) ∨ ∃ b, x = .bl b ∧ Q (.int (-(bI b))) H
theorem un_negA : UnR X (unaryOp .USub) rNegA := fun pins s σ H x v Q I rx h => h.elim (un_neg pins s σ H x v Q I rx) (un_negB pins s σ H x v Q I rx)
def rAddA (K : PySem.W.Frag) : R2 := fun x y H Q => (rI0 (fun i j => V.int (i + j)) x y H Q) ∨ ((∃ i j, x = .str i ∧ y = .str j ∧ i.length + j.length ≤ sizeLine ∧ Q (.str (i ++ j)) H) ∨ (rCatR x y H Q ∨ (rCatA K x y H Q ∨ rBI (· + ·) x y H Q)))
theorem op_addA : OpR X (binaryOp .Add) (rAddA X.K) := op_add.or (op_add_str.or (op_catR.or (op_catA.or op_addBI)))
theorem os_add : OpS C dAdd (rAddA C.K) := by
  intro H α μ x y a b z Q S ra rb e q
  unfold dAdd at e
  split at e
  · cases e
    exact .inl ⟨_, _, ra.int, rb.int, q _ H (.refl H) (.int _)⟩
  · cases e
    exact .inr (.inr (.inr (.inr ⟨_, _, ra.bl, rb.int, q _ H (.refl H) (.int _)⟩)))
  · split at e
    · rename_i hl
      cases e
      exact .inr (.inl ⟨_, _, ra.str, rb.str, lim_line hl, q _ H (.refl H) (.str _)⟩)
    · cases e
  · split at e
    · rename_i hl
      cases e
      obtain ⟨p1, xs, rfl, h1, r1⟩ := ra.list
      obtain ⟨p2, ys, rfl, h2, r2⟩ := rb.list
      refine .inr (.inr (.inl ⟨p1, p2, xs, ys, rfl, rfl, h1, h2, by rw [r1.length, r2.length]; exact lim_line hl, fun p n => ?_⟩))
      obtain ⟨sm, rp⟩ := rp_newL S n (r1.append r2)
      exact q _ _ sm rp
    · cases e
  · split at e
    · rename_i hl
      cases e
      obtain ⟨p1, xs, rfl, h1, r1⟩ := ra.tuple
      obtain ⟨p2, ys, rfl, h2, r2⟩ := rb.tuple
      refine .inr (.inr (.inr (.inl ⟨p1, p2, xs, ys, rfl, rfl, h1, h2, by rw [r1.length, r2.length]; exact lim_line hl, fun e => ?_, fun _ e => ?_, fun _ _ p n => ?_⟩)))
      · subst e
        have : _ = ([] : List D) := List.eq_nil_of_length_eq_zero r1.length.symm
        subst this
        exact q _ H (.refl H) (.tup h2 r2)
      · subst e
        have : _ = ([] : List D) := List.eq_nil_of_length_eq_zero r2.length.symm
        subst this
        rw [List.append_nil] at q
        exact q _ H (.refl H) (.tup h1 r1)
      · obtain ⟨sm, rp⟩ := rp_newT n (r1.append r2)
        exact q _ _ sm rp
    · cases e
  · cases e
theorem os_sub : OpS C dSub rSubA := by
  intro H α μ x y a b z Q S ra rb e q
  unfold dSub at e
  split at e
  · cases e
    exact .inl ⟨_, _, ra.int, rb.int, q _ H (.refl H) (.int _)⟩
  · cases e
    exact .inr ⟨_, _, ra.bl, rb.int, q _ H (.refl H) (.int _)⟩
  · cases e
/-! ### * -/
def rRepR : R2 := fun x y H Q => ∃ l k xs, x = .ref l ∧ y = .int k ∧ Rd H l (.lst xs) ∧ -(2 ^ 63) ≤ k ∧ k < 2 ^ 63 ∧ xs.length * k.toNat ≤ sizeLine ∧
  ∀ p, H p = none → Q (.ref p) (upd H p (.lst (List.replicate k.toNat xs).flatten))
theorem abs_lt {i : Int} (h : i.natAbs < 2 ^ 64) : -(2 ^ 64) < i ∧ i < 2 ^ 64 := by omega
/-- ints alone -/
def dMulI : D → D → Option D
  | .int a, .int b => if mulOk a b then some (.int (a * b)) else none
  | _, _ => none
theorem os_mulI : OpS C dMulI (fun x y H Q => (rI CMul (fun i j => V.int (i * j)) x y H Q) ∨ (rI CMulW (fun i j => V.int (i * j)) x y H Q)) := by
  intro H α μ x y a b z Q S ra rb e q
  unfold dMulI at e
  split at e
  · split at e
    · rename_i hl
      cases e
      have q1 := q _ H (.refl H) (.int _)
      rcases hl with (h | h) | ⟨h1, h2⟩
      · exact .inl ⟨_, _, ra.int, rb.int, .inl (abs_lt h), q1⟩
      · exact .inl ⟨_, _, ra.int, rb.int, .inr (abs_lt h), q1⟩
      · exact .inr ⟨_, _, ra.int, rb.int, wide_mul h1 h2 (by decide) (by decide) (by decide), q1⟩
    · cases e
  · cases e
theorem op_mulI : OpR X (binaryOp .Mult) (fun x y H Q => (rI CMul (fun i j => V.int (i * j)) x y H Q) ∨ (rI CMulW (fun i j => V.int (i * j)) x y H Q)) := op_mul.or op_mulW
theorem RpAll.rep {K : PySem.W.Frag} {H : Hp} {M : Addr → Prop} {xs : List V} {ds : List D} (r : RpAll K H M xs ds) : ∀ n, RpAll K H M (List.replicate n xs).flatten (List.replicate n ds).flatten
  | 0 => .nil
  | n + 1 => by rw [List.replicate_succ, List.replicate_succ, List.flatten_cons, List.flatten_cons]; exact r.append (RpAll.rep r n)
theorem fold_rep (us : List Value) (m : Nat) : List.foldl (fun p q => p ++ q) #[] (List.replicate m us.toArray) = (List.replicate m us).flatten.toArray := by
  have h := foldl_rep us m []
  rw [List.nil_append] at h
  exact h
theorem op_repR : OpR X (binaryOp .Mult) rRepR := by
  intro pins s σ H x y v u Q I rx ry hh
  obtain ⟨p, m, vs, rfl, rfl, hR, lo, hi, hsz, q⟩ := hh
  cases rx
  obtain ⟨tk, rfl⟩ := ry
  obtain ⟨zz, us, nn, rv, ob⟩ := hR.ok I.hok
  have ul := rv.length
  have c1 : us.toArray.size * m.toNat ≤ sizeLine := by
    rw [List.size_toArray, ← ul]
    exact hsz
  have c2 : ¬ us.toArray.size * m.toNat > (2 ^ 63 - 1) / 8 := by
    have b : (sizeLine : Nat) ≤ (2 ^ 63 - 1) / 8 := by decide
    omega
  have c3 : ¬ (!Builtin.List.listFitsIndex m) = true := by
    rw [fitsIndex_both lo hi]
    decide
  have c4 : ¬ Builtin.List.listTooLong (us.toArray.size * m.toNat) = true := by
    rw [notLongL c1]
    decide
  have all : List.foldl (fun p q => p ++ q) #[] (List.replicate (if us.toArray.isEmpty = true then 0 else m.toNat) us.toArray) = (List.replicate m.toNat us).flatten.toArray := by
    rw [fold_rep]
    cases us with
    | nil => simp
    | cons a r' => rw [if_neg (by simp)]
  have low := AutoListH.list___mul___list_int_3 p us.toArray nn m tk c3 c2 c4
  have mid := int___rmul___int_list m tk p us.toArray nn
  refine wpAny_binaryOp_repeat_ref (T := "list") (U := "int")
    (by decide) ⟨_, ob, rfl⟩ (fun z => typeIs_int z m tk) noFill_list_mul F.fills_int_mul
    F.slot_int_rmul repeat_list F.slot_int_index.lookup ?_
  refine call_meets F.slot_int_rmul (typeIs_int s m tk)
    F.entry_int_rmul (F.args_int_rmul_2 _ _) mid ⟨ob, rfl, ⟨_, ob, rfl⟩, ?_⟩
  refine call_meets F.slot_list_mul ⟨_, ob, rfl⟩ F.entry_list_mul
    (F.args_list_mul_2 _ _) low ⟨ob, ?_⟩
  rw [all]
  have fits : ((List.replicate m.toNat vs).flatten).length ≤ sizeLine := by
    rw [PyProof.Rows.lm_len_rep_flat, Nat.mul_comm]
    exact hsz
  exact ⟨.ref _, _, I.lnew (t' := s.toks) (rv.rep m.toNat) fits, rfl, q _ I.fresh⟩
def repS (a : Str) (n : Int) : Str := ⟨(List.replicate n.toNat a.cps).foldl (· ++ ·) #[]⟩
def rRepS : R2 := fun x y H Q => ∃ a n, x = .str a ∧ y = .int n ∧ (2 ≤ n ∧ n ≤ 1000 ∧ 1 ≤ a.length ∧ a.length ≤ 1000) ∧ Q (.str (repS a n)) H
theorem op_repS : OpR X (binaryOp .Mult) rRepS := by
  intro pins s σ H x y v u Q I rx ry h
  obtain ⟨a, n, rfl, rfl, ⟨h1, h2, h3, h4⟩, q⟩ := h
  obtain ⟨t, rfl⟩ := rx
  obtain ⟨t', rfl⟩ := ry
  have hm : a.length * n.toNat ≤ 1000 * 1000 := Nat.mul_le_mul h4 (by omega)
  have hl : Builtin.Str.tooLong (a.length * n.toNat) = false := by
    have : ¬ a.length * n.toNat > 2 ^ 24 := by omega
    simpa [Builtin.Str.tooLong, sizeLine] using this
  have c0 : (n == 1 || a.length == 0) = false := by
    have e1 : (n == 1) = false := beq_eq_false_iff_ne.mpr (by omega)
    have e2 : (a.length == 0) = false := beq_eq_false_iff_ne.mpr (by omega)
    rw [e1, e2]; rfl
  refine PySem.P.mul_str ?_ (fun _ _ => ?_) (fun _ _ => hl) ?_
  · have e1 : ¬ n < -(2 ^ 63 : Int) := by omega
    have e2 : ¬ n ≥ 2 ^ 63 := by omega
    rw [decide_eq_false e1, decide_eq_false e2]; rfl
  · have : (1000 : Int) ≤ (2 ^ 63 - 1) / n := by
      refine (Int.le_ediv_iff_mul_le (by omega)).mpr ?_
      omega
    omega
  · rw [if_neg (by omega), c0]
    exact ⟨fits_reps hl, .str (repS a n), H, I.tok _, ⟨_, rfl⟩, q⟩
def rMulA (K : PySem.W.Frag) : R2 := fun x y H Q => (rI CMul (fun i j => V.int (i * j)) x y H Q) ∨ ((rI CMulW (fun i j => V.int (i * j)) x y H Q) ∨ (rRepR x y H Q ∨ (rRepT K x y H Q ∨ rRepS x y H Q)))
theorem op_mulA : OpR X (binaryOp .Mult) (rMulA X.K) := op_mul.or (op_mulW.or (op_repR.or (op_repT.or op_repS)))
theorem os_mul : OpS C dMul (rMulA C.K) := by
  intro H α μ x y a b z Q S ra rb e q
  unfold dMul at e
  split at e
  · split at e
    · rename_i hl
      cases e
      have q1 := q _ H (.refl H) (.int _)
      rcases hl with (h | h) | ⟨h1, h2⟩
      · exact .inl ⟨_, _, ra.int, rb.int, .inl (abs_lt h), q1⟩
      · exact .inl ⟨_, _, ra.int, rb.int, .inr (abs_lt h), q1⟩
      · exact .inr (.inl ⟨_, _, ra.int, rb.int, wide_mul h1 h2 (by decide) (by decide) (by decide), q1⟩)
    · cases e
  · rename_i l n
    split at e
    · rename_i hl
      obtain ⟨l1, l2, l3⟩ := hl
      cases e
      obtain ⟨p1, xs, rfl, h1, r1⟩ := ra.list
      have hb := rb.int
      subst hb
      have e1 := r1.length
      have hm : xs.length * n.toNat ≤ sizeLine := Nat.le_trans (Nat.mul_le_mul (show xs.length ≤ 1000 by omega) (show n.toNat ≤ 1000 by omega)) (by decide)
      refine .inr (.inr (.inl ⟨p1, n, xs, rfl, rfl, h1, by omega, by omega, hm, fun p np => ?_⟩))
      obtain ⟨sm, rp⟩ := rp_newL S np (r1.rep n.toNat)
      exact q _ _ sm rp
    · cases e
  · rename_i l n
    split at e
    · rename_i hl
      obtain ⟨l1, l2, l3, l4⟩ := hl
      cases e
      obtain ⟨p1, xs, rfl, h1, r1⟩ := ra.tuple
      have hb := rb.int
      subst hb
      have e1 := r1.length
      refine .inr (.inr (.inr (.inl ⟨p1, n, xs, rfl, rfl, h1, fun z => l4 ?_, l1, l2, by omega, fun p np => ?_⟩)))
      · subst z
        exact List.eq_nil_of_length_eq_zero e1.symm
      · obtain ⟨sm, rp⟩ := rp_newT np (r1.rep n.toNat)
        exact q _ _ sm rp
    · cases e
  · split at e
    · rename_i hl
      cases e
      exact .inr (.inr (.inr (.inr ⟨_, _, ra.str, rb.int, hl, q _ H (.refl H) (.str _)⟩)))
    · cases e
  · cases e
def CDivA (_ j : Int) : Prop := j ≠ 0 ∧ j.natAbs.log2 < 9000
theorem op_fdivA {X : Cx} : OpR X (binaryOp .FloorDiv) (rI CDivA fun i j => .int (i.fdiv j)) := opI fun _ _ _ _ _ _ _ hc q => floordiv_int hc.1 q (.inl (PyProof.noPylong_of_log2 hc.2))
theorem log_of {j : Int} (h0 : j ≠ 0) (h : j.natAbs < 2 ^ 1000) : CDivA j j := ⟨h0, Nat.lt_of_lt_of_le (PySem.Flt.log2_lt_of (k := 1000) (by decide) h) (by decide)⟩
theorem os_div : OpS C dDiv (rI CDivA fun i j => .int (i.fdiv j)) := by
  intro H α μ x y a b z Q S ra rb e q
  unfold dDiv at e
  split at e
  · rename_i i j
    split at e
    · rename_i hl
      cases e
      have h1 := hl.1
      have h2 := hl.2
      refine ⟨_, _, ra.int, rb.int, log_of (by omega) (by omega), ?_⟩
      show Q (.int (i.fdiv j)) H
      rw [Int.fdiv_eq_ediv_of_nonneg i (by omega)]
      exact q _ H (.refl H) (.int _)
    · split at e
      · rename_i hl
        cases e
        have h1 := hl.1
        exact ⟨_, _, ra.int, rb.int, log_of (by omega) hl.2, q _ H (.refl H) (.int _)⟩
      · cases e
  · cases e
theorem os_mod : OpS C dMod (rI (fun _ j => j ≠ 0) fun i j => .int (i.fmod j)) := by
  intro H α μ x y a b z Q S ra rb e q
  unfold dMod at e
  split at e
  · rename_i i j
    split at e
    · rename_i hl
      cases e
      refine ⟨_, _, ra.int, rb.int, by omega, ?_⟩
      show Q (.int (i.fmod j)) H
      rw [Int.fmod_eq_emod_of_nonneg i (by omega)]
      exact q _ H (.refl H) (.int _)
    · split at e
      · rename_i hl
        cases e
        exact ⟨_, _, ra.int, rb.int, by omega, q _ H (.refl H) (.int _)⟩
      · cases e
  · cases e
theorem os_pow : OpS C dPow (rI CPow fun i j => .int (i ^ j.toNat)) := by
  intro H α μ x y a b z Q S ra rb e q
  unfold dPow at e
  split at e
  · split at e
    · rename_i hl
      cases e
      exact ⟨_, _, ra.int, rb.int, ⟨hl.1, Int.le_trans hl.2.1 (by decide), hl.2.2⟩, q _ H (.refl H) (.int _)⟩
    · cases e
  · cases e
theorem os_neg : UnS C dNeg rNegA := by
  intro H α μ x a z Q S ra e q
  unfold dNeg at e
  split at e
  · cases e
    exact .inl ⟨_, ra.int, q _ H (.refl H) (.int _)⟩
  · cases e
    exact .inr ⟨_, ra.bl, q _ H (.refl H) (.int _)⟩
  · cases e
theorem os_cmpI {p : Int → Int → Bool} : OpS C (cmpI p) (rI0 fun i j => .bl (p i j)) := by
  intro H α μ x y a b z Q S ra rb e q
  unfold cmpI at e
  split at e
  · cases e
    exact ⟨_, _, ra.int, rb.int, q _ H (.refl H) (.bl _)⟩
  · cases e
theorem os_eq : OpS C dEq (rEqD C.K) := by
  intro H α μ x y a b z Q S ra rb e q
  unfold dEq at e
  split at e
  · rename_i h
    cases e
    exact ⟨_, _, ra.dp, rb.dp, h.1, h.2, q _ H (.refl H) (.bl _)⟩
  · cases e
theorem os_ne : OpS C dNe (rNeD C.K) := by
  intro H α μ x y a b z Q S ra rb e q
  unfold dNe at e
  split at e
  · rename_i h
    cases e
    exact ⟨_, _, ra.dp, rb.dp, h.1, h.2, q _ H (.refl H) (.bl _)⟩
  · cases e
/-! ### an item -/
theorem os_ix : OpS C dIx (fun x y H Q => rIxL C.K x y H Q ∨ rIxT C.K x y H Q) := by
  intro H α μ x y a b z Q S ra rb e q
  have key : ∀ {n : Nat} {i : Int}, ixI n i = ixN n i := rfl
  unfold dIx at e
  split at e
  · rename_i l i
    obtain ⟨p1, xs, rfl, h1, r1⟩ := ra.list
    have hb := rb.int
    subst hb
    cases e1 : ixI l.length i with
    | none => rw [e1] at e; cases e
    | some k =>
      rw [e1] at e
      obtain ⟨v, h2, h3⟩ := r1.get (show l[k]? = some z from e)
      refine .inl ⟨p1, xs, i, v, rfl, rfl, .inl h1, ?_, q _ H (.refl H) h3⟩
      show (ixN xs.length i).bind (fun j => xs[j]?) = some v
      rw [r1.length, ← key, e1]
      exact h2
  · rename_i l i
    obtain ⟨p1, xs, rfl, h1, r1⟩ := ra.tuple
    have hb := rb.int
    subst hb
    cases e1 : ixI l.length i with
    | none => rw [e1] at e; cases e
    | some k =>
      rw [e1] at e
      obtain ⟨v, h2, h3⟩ := r1.get (show l[k]? = some z from e)
      refine .inr ⟨p1, xs, i, v, rfl, rfl, h1, ?_, q _ H (.refl H) h3⟩
      show (ixN xs.length i).bind (fun j => xs[j]?) = some v
      rw [r1.length, ← key, e1]
      exact h2
  · cases e
/-! ### a slice -/
theorem six_eq (n d : Nat) (o : Option Int) : six n d o = HT.sIx n d o := by cases o <;> rfl
theorem RpAll.cut {K : PySem.W.Frag} {H : Hp} {M : Addr → Prop} {xs : List V} {ds : List D} (r : RpAll K H M xs ds) (lo hi : Option Int) : RpAll K H M (cutV xs lo hi) (cutL ds lo hi) := by
  unfold cutV cutL
  rw [six_eq, six_eq, r.length]
  exact (r.drop _).take _
theorem cut_all {xs : List V} {lo hi : Option Int} (h : HT.sIx xs.length 0 lo = 0 ∧ HT.sIx xs.length xs.length hi = xs.length) : cutV xs lo hi = xs := by
  unfold cutV
  rw [h.1, h.2]
  simp
theorem os_cut (S : Stor C H α μ) {x : V} {a z : D} {lo hi : Option Int} {Q : VK} (ra : RpT C.K H (Own α μ) x a) (e : dCut a lo hi = some z) (q : ∀ v H', Same H H' → Rp C.K H' (Own α μ) v z → Q v H') : (rSlL C.K x lo hi H Q ∨ rSlA C.K x lo hi H Q) ∨ rSlS x lo hi H Q := by
  unfold dCut at e
  split at e
  · split at e
    · rename_i hl
      cases e
      have hx := ra.str
      subst hx
      exact .inr ⟨_, rfl, lim_line hl, q _ H (.refl H) (.str _)⟩
    · cases e
  · cases e
    obtain ⟨p1, xs, rfl, h1, r1⟩ := ra.list
    refine .inl (.inl ⟨p1, xs, rfl, .inl h1, fun p np => ?_⟩)
    obtain ⟨sm, rp⟩ := rp_newL S np (r1.cut _ _)
    exact q _ _ sm rp
  · cases e
    obtain ⟨p1, xs, rfl, h1, r1⟩ := ra.tuple
    refine .inl (.inr ⟨p1, xs, rfl, h1, fun hw => ?_, fun hw p np => ?_⟩)
    · refine q _ H (.refl H) (.tup h1 ?_)
      have := r1.cut lo hi
      rw [cut_all hw] at this
      exact this
    · obtain ⟨sm, rp⟩ := rp_newT np (r1.cut _ _)
      exact q _ _ sm rp
  · cases e
end
/-! ### is True -/
section
variable {X : Cx} {C : Cv}
def rIsB (g : Bool → Bool → Bool) : R2 := fun x y H Q => ∃ i j, x = .bl i ∧ y = .bl j ∧ Q (.bl (g i j)) H
theorem op_isB : OpR X (compareOp .Is) (rIsB fun i j => i == j) := by
  intro pins s σ H x y v u Q I rx ry h
  obtain ⟨i, j, rfl, rfl, q⟩ := h
  cases rx
  cases ry
  exact is_bool ⟨.bl (i == j), H, I, rfl, q⟩
theorem op_isNotB : OpR X (compareOp .IsNot) (rIsB fun i j => i != j) := by
  intro pins s σ H x y v u Q I rx ry h
  obtain ⟨i, j, rfl, rfl, q⟩ := h
  cases rx
  cases ry
  exact isnot_bool ⟨.bl (i != j), H, I, rfl, q⟩
theorem os_isB : OpS C dIsB (rIsB fun i j => i == j) := by
  intro H α μ x y a b z Q S ra rb e q
  unfold dIsB at e
  split at e
  · cases e
    exact ⟨_, _, ra.bl, rb.bl, q _ H (.refl H) (.bl _)⟩
  · cases e
theorem os_isNotB : OpS C dIsNotB (rIsB fun i j => i != j) := by
  intro H α μ x y a b z Q S ra rb e q
  unfold dIsNotB at e
  split at e
  · cases e
    exact ⟨_, _, ra.bl, rb.bl, q _ H (.refl H) (.bl _)⟩
  · cases e
end
end L3

set_option Elab.async false
set_option linter.all false
set_option maxRecDepth 100000
/-! Arguments, displays, subscripts, slices, calls of builtins and of defs. -/
namespace L3
open PySem PySem.Spec PyProof.Rows L2 Mi

section
variable {C : Cv} {E : XK}
/-! ### membership -/
theorem Rp.flat {K : PySem.W.Frag} {H : Hp} {M : Addr → Prop} {v : V} {d : D} (r : Rp K H M v d) (h : flatD d = true) : flatV v = true := by
  cases r <;> first | rfl | cases h
theorem Rp.eqv {K : PySem.W.Frag} {H : Hp} {M : Addr → Prop} {v u : V} {d e : D} (r : Rp K H M v d) (q : Rp K H M u e) (h : flatD d = true) (h' : flatD e = true) : eqV v u = PyData.eqv d e := by
  cases r with
  | lst _ _ _ => cases h
  | tup _ _ => cases h
  | non => cases q <;> first | rfl | cases h'
  | bl b => cases q <;> first | rfl | cases h'
  | int b => cases q <;> first | rfl | cases h'
  | str b => cases q <;> first | rfl | cases h'

theorem RpAll.flat {K : PySem.W.Frag} {H : Hp} {M : Addr → Prop} : ∀ {vs : List V} {ds : List D}, RpAll K H M vs ds → ds.all flatD = true → vs.all flatV = true
  | _, _, .nil, _ => rfl
  | _, _, .cons r t, h => by
    rw [List.all_cons, Bool.and_eq_true] at h
    rw [List.all_cons, r.flat h.1, RpAll.flat t h.2]
    rfl
theorem RpAll.inV {K : PySem.W.Frag} {H : Hp} {M : Addr → Prop} {u : V} {e : D} (q : Rp K H M u e) (he : flatD e = true) : ∀ {vs : List V} {ds : List D}, RpAll K H M vs ds → ds.all flatD = true → L2.inV u vs = ds.any fun y => PyData.eqv y e
  | _, _, .nil, _ => rfl
  | _, _, .cons r t, h => by
    rw [List.all_cons, Bool.and_eq_true] at h
    have ih := RpAll.inV q he t h.2
    unfold L2.inV at ih ⊢
    rw [List.any_cons, List.any_cons, r.eqv q h.1 he, ih]
theorem RpT.flat {K : PySem.W.Frag} {H : Hp} {M : Addr → Prop} {v : V} {d : D} (r : RpT K H M v d) (h : flatD d = true) : Rp K H M v d := by
  rcases r with r | ⟨a, xs, ds, rfl, rfl, _⟩
  · exact r
  · cases h
def rInA (K : PySem.W.Frag) (neg : Bool) : R2 := fun x y H Q => rIn K neg x y H Q ∨ (∃ (c : Nat) (z : Str), x = .str ⟨#[c]⟩ ∧ y = .str z ∧ Q (.bl (if neg then !decide (c ∈ z.cps.toList) else decide (c ∈ z.cps.toList))) H)
theorem op_inA {X : Cx} : OpR X (compareOp .In) (rInA X.K false) := op_in_seq.or op_in_sign
theorem op_notInA {X : Cx} : OpR X (compareOp .NotIn) (rInA X.K true) := op_notIn_seq.or op_notIn_sign
theorem str1 {x : Str} (h : x.cps.size = 1) : x = ⟨#[x.cps.getD 0 0]⟩ := by
  obtain ⟨⟨l⟩⟩ := x
  match l, h with
  | [a], _ => rfl
theorem in_core {neg : Bool} {H : Hp} {α : Al} {μ : Sto} {x y : V} {a b : D} {k : Bool} {Q : VK} (S : Stor C H α μ) (ra : RpT C.K H (Own α μ) x a) (rb : RpT C.K H (Own α μ) y b) (e : dIn a b = some (.bool k)) (q : Q (.bl (if neg then !k else k)) H) : rInA C.K neg x y H Q := by
  unfold dIn at e
  split at e
  · rename_i l
    split at e
    · rename_i h
      injection e with e
      injection e with e
      obtain ⟨p1, xs, rfl, h1, r1⟩ := rb.list
      have r0 := ra.flat h.1
      exact .inl ⟨p1, xs, rfl, .inl (.inl h1), r0.flat h.1, r1.flat h.2, by rw [r1.inV r0 h.1 h.2, e]; exact q⟩
    · cases e
  · rename_i l
    split at e
    · rename_i h
      injection e with e
      injection e with e
      obtain ⟨p1, xs, rfl, h1, r1⟩ := rb.tuple
      have r0 := ra.flat h.1
      exact .inl ⟨p1, xs, rfl, .inr h1, r0.flat h.1, r1.flat h.2, by rw [r1.inV r0 h.1 h.2, e]; exact q⟩
    · cases e
  · split at e
    · rename_i h
      injection e with e
      injection e with e
      have h1 := ra.str
      have h2 := rb.str
      subst h1 h2
      exact .inr ⟨_, _, by rw [← str1 h], rfl, by rw [e]; exact q⟩
    · cases e
  · cases e
theorem dIn_bool {a b z : D} (e : dIn a b = some z) : ∃ k, z = .bool k := by
  unfold dIn at e
  split at e
  · split at e
    · cases e; exact ⟨_, rfl⟩
    · cases e
  · split at e
    · cases e; exact ⟨_, rfl⟩
    · cases e
  · split at e
    · cases e; exact ⟨_, rfl⟩
    · cases e
  · cases e
theorem os_in : OpS C dIn (rInA C.K false) := by
  intro H α μ x y a b z Q S ra rb e q
  obtain ⟨k, rfl⟩ := dIn_bool e
  exact in_core S ra rb e (q _ H (.refl H) (.bl k))
theorem os_notIn : OpS C dNotIn (rInA C.K true) := by
  intro H α μ x y a b z Q S ra rb e q
  unfold dNotIn at e
  split at e
  · rename_i k e1
    cases e
    exact in_core S ra rb e1 (q _ H (.refl H) (.bl (!k)))
  · cases e

/-! ### argument lists -/
def PQs (C : Cv) (E : XK) (Q : List V → Hp → Prop) (H : Hp) (α : Al) (μ : Sto) : R (List W) → Prop
  | .ok ws μ' => ∀ vs H' α', Step H α μ H' α' μ' → Stor C H' α' μ' → RpWs C H' α' μ' vs ws → Q vs H'
  | .er x μ' => ∀ cls d H' α', Step H α μ H' α' μ' → Stor C H' α' μ' → RpX C H' cls d x → E cls d H'
  | .no => False
def tDs (C : Cv) (E : XK) (a : AF) : TA := fun σ H Q => ∃ ρ α μ, Stor C H α μ ∧ Sl C H α μ σ ρ ∧ PQs C E Q H α μ (a ρ μ)
theorem PQs.step {Q : List V → Hp → Prop} {H H1 : Hp} {α α1 : Al} {μ μ1 : Sto} {r : R (List W)} (h : PQs C E Q H α μ r) (st : Step H α μ H1 α1 μ1) : PQs C E Q H1 α1 μ1 r := by
  cases r with
  | ok w μ' => exact fun v H' α' s S q => h v H' α' (st.trans s) S q
  | er x μ' => exact fun cls d H' α' s S q => h cls d H' α' (st.trans s) S q
  | no => exact h
theorem tD_binds {Q' : VK} {Q : List V → Hp → Prop} {H : Hp} {α : Al} {μ : Sto} {σ : L2.St} {ρ : Mi.Env} {f : EF} {k : W → Sto → R (List W)} (S : Stor C H α μ) (sl : Sl C H α μ σ ρ) (h : PQs C E Q H α μ ((f ρ μ).bind k))
    (cont : ∀ v w H1 α1 μ1, Step H α μ H1 α1 μ1 → Stor C H1 α1 μ1 → Sl C H1 α1 μ1 σ ρ → RpW C H1 α1 μ1 v w → PQs C E Q H1 α1 μ1 (k w μ1) → Q' v H1) : tD C E f σ H Q' := by
  refine ⟨ρ, α, μ, S, sl, ?_⟩
  cases e : f ρ μ with
  | ok w μ1 =>
    rw [e] at h
    exact fun v H1 α1 st S1 r => cont v w H1 α1 μ1 st S1 (sl.step st) r (PQs.step (r := k w μ1) h st)
  | er x μ1 => rw [e] at h; exact h
  | no => rw [e] at h; exact (show False from h).elim
theorem tDs_binds {Q Q' : List V → Hp → Prop} {H : Hp} {α : Al} {μ : Sto} {σ : L2.St} {ρ : Mi.Env} {f : AF} {k : List W → Sto → R (List W)} (S : Stor C H α μ) (sl : Sl C H α μ σ ρ) (h : PQs C E Q H α μ ((f ρ μ).bind k))
    (cont : ∀ v w H1 α1 μ1, Step H α μ H1 α1 μ1 → Stor C H1 α1 μ1 → Sl C H1 α1 μ1 σ ρ → RpWs C H1 α1 μ1 v w → PQs C E Q H1 α1 μ1 (k w μ1) → Q' v H1) : tDs C E f σ H Q' := by
  refine ⟨ρ, α, μ, S, sl, ?_⟩
  cases e : f ρ μ with
  | ok w μ1 =>
    rw [e] at h
    exact fun v H1 α1 st S1 r => cont v w H1 α1 μ1 st S1 (sl.step st) r (PQs.step (r := k w μ1) h st)
  | er x μ1 => rw [e] at h; exact h
  | no => rw [e] at h; exact (show False from h).elim
theorem tDs_bind {Q : VK} {Q' : List V → Hp → Prop} {H : Hp} {α : Al} {μ : Sto} {σ : L2.St} {ρ : Mi.Env} {f : AF} {k : List W → Sto → R W} (S : Stor C H α μ) (sl : Sl C H α μ σ ρ) (h : PQ C E Q H α μ ((f ρ μ).bind k))
    (cont : ∀ v w H1 α1 μ1, Step H α μ H1 α1 μ1 → Stor C H1 α1 μ1 → Sl C H1 α1 μ1 σ ρ → RpWs C H1 α1 μ1 v w → PQ C E Q H1 α1 μ1 (k w μ1) → Q' v H1) : tDs C E f σ H Q' := by
  refine ⟨ρ, α, μ, S, sl, ?_⟩
  cases e : f ρ μ with
  | ok w μ1 =>
    rw [e] at h
    exact fun v H1 α1 st S1 r => cont v w H1 α1 μ1 st S1 (sl.step st) r (PQ.step (r := k w μ1) h st)
  | er x μ1 => rw [e] at h; exact h
  | no => rw [e] at h; exact (show False from h).elim
theorem RpWs.asDs {H : Hp} {α : Al} {μ : Sto} : ∀ {vs : List V} {ws : List W} {ds : List D}, RpWs C H α μ vs ws → Mi.asDs ws = some ds → RpAll C.K H (Own α μ) vs ds
  | _, _, _, .nil, e => by cases e; exact .nil
  | _, .d d :: ws, _, .cons r t, e => by
    rw [asDs_cons] at e
    cases e1 : Mi.asDs ws with
    | none => rw [e1] at e; cases e
    | some ds =>
      rw [e1] at e
      cases e
      exact .cons r (RpWs.asDs t e1)
  | _, .m k :: ws, _, .cons r t, e => by cases e
  | _, .f k :: ws, _, .cons r t, e => by cases e
  | _, .x k :: ws, _, .cons r t, e => by cases e
  | _, .e _ _ :: ws, _, .cons r t, e => by cases e
  | _, .es _ :: ws, _, .cons r t, e => by cases e
inductive RpTs (C : Cv) (H : Hp) (M : Addr → Prop) : List V → List D → Prop
  | nil : RpTs C H M [] []
  | cons {v : V} {vs : List V} {d : D} {ds : List D} : RpT C.K H M v d → RpTs C H M vs ds → RpTs C H M (v :: vs) (d :: ds)
theorem RpWs.views {H : Hp} {α : Al} {μ : Sto} (S : Stor C H α μ) : ∀ {vs : List V} {ws : List W} {ds : List D}, RpWs C H α μ vs ws → Mi.views μ ws = some ds → RpTs C H (Own α μ) vs ds
  | _, _, _, .nil, e => by cases e; exact .nil
  | _, w :: ws, _, .cons r t, e => by
    unfold Mi.views at e
    cases e1 : Mi.view μ w with
    | none => rw [e1] at e; cases e
    | some d =>
      rw [e1] at e
      cases e2 : Mi.views μ ws with
      | none => simp [e2] at e
      | some ds =>
        simp only [e2, Option.bind_some, Option.map_some, Option.some.injEq] at e
        subst e
        exact .cons (r.view S e1) (RpWs.views S t e2)
end

section
variable {X : Cx} {T : List (Addr × Str)} {E : XK} {j : Nat} {pos : Pos} {a b c : Expr} {f g h : EF} {es : List Expr} {r : AF}
structure DA (X : Cx) (T : List (Addr × Str)) (E : XK) (es : List Expr) (a : AF) : Prop where
  pa : PA X es (tDs (CvX X T) E a)
  len : ∀ ρ μ ws μ', a ρ μ = .ok ws μ' → ws.length = es.length
theorem pa_imp {t t' : TA} (h : PA X es t) (i : ∀ σ H Q, t' σ H Q → t σ H Q) : PA X es t' := ⟨fun ps pins s σ H Q I q => h.run ps pins s σ H Q I (i _ _ _ q)⟩
theorem da_nil : DA X T E [] aNil :=
  ⟨pa_imp pa_nil fun σ H Q ⟨ρ, α, μ, S, sl, q⟩ => q [] H α (.refl _ _ _) S .nil, fun ρ μ ws μ' e => by cases e; rfl⟩
theorem da_cons (ha : DE X T E a f) (hr : DA X T E es r) (hs : starEach (a :: es) X.env = (false, eval a X.env) :: starEach es X.env := by rfl) : DA X T E (a :: es) (aCons f r) := by
  refine ⟨pa_imp (pa_cons ha hr.pa hs) fun σ H Q ⟨ρ, α, μ, S, sl, q⟩ => ?_, fun ρ μ ws μ' e => ?_⟩
  · refine tD_binds S sl q fun v w H1 α1 μ1 st1 S1 sl1 r1 q1 => ?_
    exact tDs_binds S1 sl1 q1 fun vs ws H2 α2 μ2 st2 S2 sl2 r2 q2 => q2 (v :: vs) H2 α2 (.refl _ _ _) S2 (.cons (r1.step st2) r2)
  · unfold aCons at e
    cases e1 : f ρ μ with
    | ok w μ1 =>
      rw [e1] at e
      cases e2 : r ρ μ1 with
      | ok ws2 μ2 =>
        rw [R.bind_ok, e2, R.bind_ok] at e
        cases e
        exact congrArg (· + 1) (hr.len ρ μ1 ws2 _ e2)
      | er x μ2 => rw [R.bind_ok, e2] at e; cases e
      | no => rw [R.bind_ok, e2] at e; cases e
    | er x μ1 => rw [e1] at e; cases e
    | no => rw [e1] at e; cases e
theorem DA.read (hr : DA X T E es r) {C : Cv} {Q : VK} {H : Hp} {α : Al} {μ : Sto} {σ : L2.St} {ρ : Mi.Env} {k : List W → Sto → R W} {Q' : List V → Hp → Prop} (S : Stor (CvX X T) H α μ) (sl : Sl (CvX X T) H α μ σ ρ) (q : PQ (CvX X T) E Q H α μ ((r ρ μ).bind k))
    (cont : ∀ v w H1 α1 μ1, Step H α μ H1 α1 μ1 → Stor (CvX X T) H1 α1 μ1 → Sl (CvX X T) H1 α1 μ1 σ ρ → RpWs (CvX X T) H1 α1 μ1 v w → w.length = es.length → PQ (CvX X T) E Q H1 α1 μ1 (k w μ1) → Q' v H1) : tDs (CvX X T) E r σ H Q' := by
  refine ⟨ρ, α, μ, S, sl, ?_⟩
  cases e : r ρ μ with
  | ok w μ1 =>
    rw [e] at q
    exact fun v H1 α1 st S1 rr => cont v w H1 α1 μ1 st S1 (sl.step st) rr (hr.len _ _ _ _ e) (PQ.step (r := k w μ1) q st)
  | er x μ1 => rw [e] at q; exact q
  | no => rw [e] at q; exact (show False from q).elim
/-! ### displays -/
theorem de_tup {k : Nat} (hr : DA X T E es r) (hl : es.length ≤ 1000 := by decide) : DE X T E (.Tuple es k pos) (eTup r) :=
  pe_imp (pe_tup hr.pa) fun σ H Q ⟨ρ, α, μ, S, sl, q⟩ => hr.read (C := CvX X T) S sl q fun vs ws H1 α1 μ1 st S1 sl1 rs ln q1 => by
    obtain ⟨z, e, q2⟩ := PQ.ofO q1
    cases e1 : Mi.asDs ws with
    | none => rw [e1] at e; cases e
    | some ds =>
      rw [e1] at e
      cases e
      refine ⟨by rw [rs.length, ln]; exact Nat.le_trans hl (by decide), fun p np => ?_⟩
      obtain ⟨sm, rp⟩ := rp_newT np (rs.asDs e1)
      exact q2 _ _ _ (Same.step S1 sm) (S1.same sm) rp
theorem de_lst (hr : DA X T E es r) (hl : es.length ≤ 1000 := by decide) : DE X T E (.List es pos) (eLst r) :=
  pe_imp (pe_lst hr.pa) fun σ H Q ⟨ρ, α, μ, S, sl, q⟩ => hr.read (C := CvX X T) S sl q fun vs ws H1 α1 μ1 st S1 sl1 rs ln q1 => by
    obtain ⟨z, e, q2⟩ := PQ.ofO q1
    cases e1 : Mi.asDs ws with
    | none => rw [e1] at e; cases e
    | some ds =>
      rw [e1] at e
      cases e
      refine ⟨by rw [rs.length, ln]; exact Nat.le_trans hl (by decide), fun p np => ?_⟩
      obtain ⟨sm, rp⟩ := rp_newL S1 np (rs.asDs e1)
      exact q2 _ _ _ (Same.step S1 sm) (S1.same sm) rp
end
section
variable {C : Cv} {H : Hp} {α : Al} {μ : Sto}
/-- what was not tracked becomes one's own -/
def Al.push (α : Al) (p : Addr) : Al := ⟨α.own ++ [p], α.hid⟩
theorem own_push {p : Addr} {c : Cell} {a : Addr} (hl : α.own.length = μ.length) : Own (α.push p) (μ ++ [some c]) a ↔ Own α μ a ∨ a = p := by
  constructor
  · rintro (⟨k, d, h1, h2⟩ | h)
    · have h1 : (α.own ++ [p])[k]? = some a := h1
      by_cases hk : k < α.own.length
      · rw [List.getElem?_append_left hk] at h1
        rw [List.getElem?_append_left (by omega)] at h2
        exact .inl (.inl ⟨k, d, h1, h2⟩)
      · rw [List.getElem?_append_right (by omega)] at h1
        by_cases hz : k - α.own.length = 0
        · rw [hz] at h1
          exact .inr (Option.some.inj h1).symm
        · rw [List.getElem?_eq_none (by simp; omega)] at h1
          cases h1
    · exact .inl (.inr h)
  · rintro ((⟨k, d, h1, h2⟩ | h) | rfl)
    · have hk : k < α.own.length := (List.getElem?_eq_some_iff.mp h1).1
      have hk2 : k < μ.length := (List.getElem?_eq_some_iff.mp h2).1
      exact .inl ⟨k, d, by show (α.own ++ [p])[k]? = _; rw [List.getElem?_append_left hk]; exact h1, by rw [List.getElem?_append_left hk2]; exact h2⟩
    · exact .inr h
    · exact .inl ⟨α.own.length, c, by show (α.own ++ [a])[_]? = _; rw [List.getElem?_append_right (Nat.le_refl _)]; simp, by rw [hl, List.getElem?_append_right (Nat.le_refl _)]; simp⟩
theorem step_push (S : Stor C H α μ) {p : Addr} {xs : List V} {ds : List D} (np : H p = none) : Step H α μ (upd H p (.lst xs)) (α.push p) (μ ++ [some (.lst ds)]) := by
  refine ⟨⟨fun b o h n _ => ⟨same_upd np b o h, fun z => ?_⟩, fun b xs h => same_upd np b _ h, fun b o u h => same_upd np b _ h⟩, fun k a h => ?_, rfl, (Same.step S (same_upd np)).keep⟩
  · rcases (own_push S.len).mp z with z | z
    · exact n z
    · rw [z, np] at h; cases h
  · show (α.own ++ [p])[k]? = _
    rw [List.getElem?_append_left (List.getElem?_eq_some_iff.mp h).1]
    exact h
theorem stor_push (S : Stor C H α μ) {p : Addr} {xs : List V} {ds : List D} (np : H p = none) (r : RpAll C.K H (Own α μ) xs ds) : Stor C (upd H p (.lst xs)) (α.push p) (μ ++ [some (.lst ds)]) := by
  have st := step_push (xs := xs) (ds := ds) S np
  have fresh : ∀ a ∈ α.own ++ α.hid, a ≠ p := fun a ha e => by
    obtain ⟨o, q, _⟩ := S.there a ha
    rw [e, np] at q; cases q
  refine ⟨by simp [Al.push, S.len], ?_, fun a h => ?_, fun k c h => ?_, S.tabs.ext (same_upd np)⟩
  · show ((α.own ++ [p]) ++ α.hid).Nodup
    have h := S.nd
    rw [List.append_assoc, List.singleton_append, List.Perm.nodup_iff List.perm_middle]
    exact List.nodup_cons.mpr ⟨fun z => fresh p z rfl, h⟩
  · have h : a ∈ (α.own ++ [p]) ++ α.hid := h
    by_cases e : a = p
    · subst e
      exact ⟨_, upd_same, fun _ z => by cases z⟩
    · have hm : a ∈ α.own ++ α.hid := by
        rcases List.mem_append.mp h with h | h
        · rcases List.mem_append.mp h with h | h
          · exact List.mem_append_left _ h
          · exact absurd (by simpa using h) e
        · exact List.mem_append_right _ h
      obtain ⟨o, q, n⟩ := S.there a hm
      exact ⟨o, same_upd np _ _ q, n⟩
  · by_cases hk : k < μ.length
    · rw [List.getElem?_append_left hk] at h
      obtain ⟨a, h1, h2⟩ := S.cell k c h
      refine ⟨a, st.pre _ _ h1, ?_⟩
      cases c with
      | lst l => obtain ⟨ys, e1, e2⟩ := h2; exact ⟨ys, same_upd np _ _ e1, e2.ext st.ext⟩
      | ins c fs => obtain ⟨A, dx, gs, e1, e2, e3, e4⟩ := h2; exact ⟨A, dx, gs, e1, same_upd np _ _ e2, e3, e4.ext st.ext⟩
    · rw [List.getElem?_append_right (by omega)] at h
      by_cases hz : k - μ.length = 0
      · rw [hz] at h
        cases h
        refine ⟨p, ?_, xs, upd_same, r.ext st.ext⟩
        show (α.own ++ [p])[k]? = _
        rw [List.getElem?_append_right (by rw [S.len]; omega), S.len, hz]
        rfl
      · rw [List.getElem?_eq_none (by simp; omega)] at h
        cases h
end

section
variable {X : Cx} {T : List (Addr × Str)} {E : XK} {j : Nat} {pos : Pos} {a b c : Expr} {f g h : EF} {es : List Expr} {r : AF}
theorem de_lstM (hr : DA X T E es r) (hl : es.length ≤ 1000 := by decide) : DE X T E (.List es pos) (eLstM r) :=
  pe_imp (pe_lst hr.pa) fun σ H Q ⟨ρ, α, μ, S, sl, q⟩ => hr.read (C := CvX X T) S sl q fun vs ws H1 α1 μ1 st S1 sl1 rs ln q1 => by
    refine ⟨by rw [rs.length, ln]; exact Nat.le_trans hl (by decide), fun p np => ?_⟩
    split at q1
    · rename_i ds e1
      have rr := rs.asDs e1
      exact q1 _ _ _ (step_push S1 np) (stor_push S1 np rr) ⟨p, by show (α1.own ++ [p])[_]? = _; rw [← S1.len]; simp, rfl⟩
    · exact (show False from q1).elim
/-! ### subscripts, slices -/
theorem de_ix (ha : DE X T E a f) (hb : DE X T E b g) (hs : PlainIx b := by exact fun _ _ => rfl) : DE X T E (.Subscript a b pos) (eOp dIx f g) :=
  pe_imp (pe_ix (ix_list.or ix_tup) ha hb hs) fun σ H Q q => op_rd os_ix q
structure DP (X : Cx) (T : List (Addr × Str)) (E : XK) (e : Option Expr) (o : Option EF) : Prop where
  po : PO X e (fun σ H Q => ∃ ρ α μ, Stor (CvX X T) H α μ ∧ Sl (CvX X T) H α μ σ ρ ∧ (match ePart o ρ μ with
    | .ok i μ1 => ∀ H1 α1, Step H α μ H1 α1 μ1 → Stor (CvX X T) H1 α1 μ1 → Q i H1
    | .er x μ1 => ∀ cls d H1 α1, Step H α μ H1 α1 μ1 → Stor (CvX X T) H1 α1 μ1 → RpX (CvX X T) H1 cls d x → E cls d H1
    | .no => False))
theorem po_imp {e : Option Expr} {t t' : TO} (h : PO X e t) (i : ∀ σ H Q, t' σ H Q → t σ H Q) : PO X e t' := ⟨fun pins s σ H Q I q => h.run pins s σ H Q I (i _ _ _ q)⟩
theorem dp_none : DP X T E none none := ⟨po_imp po_none fun σ H Q ⟨ρ, α, μ, S, sl, q⟩ => q H α (.refl _ _ _) S⟩
theorem dp_some (ha : DE X T E a f) : DP X T E (some a) (some f) := ⟨po_imp (po_some ha) fun σ H Q ⟨ρ, α, μ, S, sl, q⟩ => by
  refine ⟨ρ, α, μ, S, sl, ?_⟩
  have e : ePart (some f) ρ μ = (f ρ μ).bind fun w μ1 => match w with | .d (.int i) => .ok (some i) μ1 | _ => .no := rfl
  rw [e] at q
  cases e1 : f ρ μ with
  | ok w μ1 =>
    rw [e1, R.bind_ok] at q
    intro v H1 α1 st S1 rv
    cases w with
    | d d =>
      cases d with
      | int i => cases rv; exact ⟨i, rfl, q H1 α1 st S1⟩
      | none => exact q.elim
      | bool i => exact q.elim
      | str i => exact q.elim
      | list i => exact q.elim
      | tuple i => exact q.elim
      | dict i => exact q.elim
    | m k => exact q.elim
    | f k => exact q.elim
    | x k => exact q.elim
    | e _ _ => exact q.elim
    | es _ => exact q.elim
  | er x μ1 => rw [e1] at q; exact q
  | no => rw [e1] at q; exact q⟩
theorem DP.read {e : Option Expr} {o : Option EF} (hp : DP X T E e o) {Q : VK} {H : Hp} {α : Al} {μ : Sto} {σ : L2.St} {ρ : Mi.Env} {k : Option Int → Sto → R W} {Q' : Option Int → Hp → Prop} {t : TO} (S : Stor (CvX X T) H α μ) (sl : Sl (CvX X T) H α μ σ ρ) (q : PQ (CvX X T) E Q H α μ ((ePart o ρ μ).bind k))
    (cont : ∀ i H1 α1 μ1, Step H α μ H1 α1 μ1 → Stor (CvX X T) H1 α1 μ1 → Sl (CvX X T) H1 α1 μ1 σ ρ → PQ (CvX X T) E Q H1 α1 μ1 (k i μ1) → Q' i H1) :
    ∃ ρ α μ, Stor (CvX X T) H α μ ∧ Sl (CvX X T) H α μ σ ρ ∧ (match ePart o ρ μ with
    | .ok i μ1 => ∀ H1 α1, Step H α μ H1 α1 μ1 → Stor (CvX X T) H1 α1 μ1 → Q' i H1
    | .er x μ1 => ∀ cls d H1 α1, Step H α μ H1 α1 μ1 → Stor (CvX X T) H1 α1 μ1 → RpX (CvX X T) H1 cls d x → E cls d H1
    | .no => False) := by
  refine ⟨ρ, α, μ, S, sl, ?_⟩
  cases e : ePart o ρ μ with
  | ok i μ1 =>
    rw [e] at q
    exact fun H1 α1 st S1 => cont i H1 α1 μ1 st S1 (sl.step st) (PQ.step (r := k i μ1) q st)
  | er x μ1 => rw [e] at q; exact q
  | no => rw [e] at q; exact q
theorem de_sl {lo hi : Option Expr} {p2 : Pos} {o u : Option EF} (ha : DE X T E a f) (hl : DP X T E lo o) (hh : DP X T E hi u) : DE X T E (.Subscript a (.Slice lo hi none p2) pos) (eSl dCut f o u) :=
  pe_imp (pe_slice ((sl_list.or sl_tupA).or sl_str) ha hl.po hh.po) fun σ H Q ⟨ρ, α, μ, S, sl, q⟩ => tD_bind S sl q fun v w H1 α1 μ1 st1 S1 sl1 r1 q1 => by
    refine hl.read (t := fun _ _ _ => True) S1 sl1 q1 fun i H2 α2 μ2 st2 S2 sl2 q2 => ?_
    refine hh.read (t := fun _ _ _ => True) S2 sl2 q2 fun k H3 α3 μ3 st3 S3 sl3 q3 => ?_
    obtain ⟨z, e, q4⟩ := PQ.ofO q3
    cases e1 : view μ3 w with
    | none => rw [e1] at e; cases e
    | some d =>
      simp only [e1, Option.bind_some] at e
      cases e2 : dCut d i k with
      | none => rw [e2] at e; cases e
      | some d2 =>
        rw [e2] at e
        cases e
        exact os_cut S3 (((r1.step st2).step st3).view S3 e1) e2 fun v H' sm rv => q4 v H' α3 (Same.step S3 sm) (S3.same sm) rv
/-- a module's tuple of texts -/
def GTup (K : PySem.W.Frag) (mg : Str → Option Value) (x : Str) (ds : List D) : Prop := ∃ a xs, mg x = some (.ref a) ∧ ∀ H M, SqT K H a xs ∧ RpAll K H M xs ds
theorem de_gtup {x : Str} {ds : List D} (h : GTup X.K X.mg x ds) (hg : Gl X x := by rfl) (hd : (x == ("__debug__" : Str)) = false := by decide) : DE X T E (.Name x pos) (eC (.tuple ds)) := by
  obtain ⟨A, xs, hm, hr⟩ := h
  exact pe_imp (pe_glob hg hm (v := .ref A) rfl hd) fun σ H Q ⟨ρ, α, μ, S, sl, q⟩ => PQ.ok (w := .d (.tuple ds)) S (.tup (hr H (Own α μ)).1 (hr H (Own α μ)).2) q
/-- xs[::-1] -/
theorem de_rev {j1 : Nat} {p1 p2 p3 : Pos} (ha : DE X T E a f) : DE X T E (.Subscript a (.Slice none none (some (.UnaryOp .USub (.Constant (.int 1) j1 p1) p2)) p3) pos) (eUn dRevL f) :=
  pe_imp (pe_revL ha) fun σ H Q ⟨ρ, α, μ, S, sl, q⟩ => tD_bind S sl q fun v w H1 α1 μ1 st1 S1 sl1 r1 q1 => by
    obtain ⟨z, e, q2⟩ := PQ.ofO q1
    cases e1 : view μ1 w with
    | none => rw [e1] at e; cases e
    | some d =>
      simp only [e1, Option.bind_some] at e
      cases d with
      | list l =>
        cases e
        obtain ⟨p4, xs, rfl, h4, r4⟩ := (r1.view S1 e1).list
        refine ⟨p4, xs, rfl, .inl h4, fun p np => ?_⟩
        obtain ⟨sm, rp⟩ := rp_newL S1 np r4.reverse
        exact q2 _ _ _ (Same.step S1 sm) (S1.same sm) rp
      | none => cases e
      | bool b => cases e
      | int b => cases e
      | str b => cases e
      | tuple b => cases e
      | dict b => cases e
/-! ### builtins -/
def BlS (C : Cv) (h : List D → Option D) (r : List V → Hp → VK → Prop) : Prop := ∀ H α μ xs ds z Q, Stor C H α μ → RpTs C H (Own α μ) xs ds → h ds = some z → (∀ v H', Same H H' → Rp C.K H' (Own α μ) v z → Q v H') → r xs H Q
theorem blt_rd {hh : List D → Option D} {rr : List V → Hp → VK → Prop} (hs : BlS (CvX X T) hh rr) (hr : DA X T E es r) {σ : L2.St} {H : Hp} {Q : VK} (q : tD (CvX X T) E (eBlt hh r) σ H Q) : tDs (CvX X T) E r σ H fun vs H1 => rr vs H1 Q := by
  obtain ⟨ρ, α, μ, S, sl, q⟩ := q
  refine hr.read (C := CvX X T) S sl q fun vs ws H1 α1 μ1 st S1 sl1 rs ln q1 => ?_
  obtain ⟨z, e, q2⟩ := PQ.ofO q1
  cases e1 : Mi.views μ1 ws with
  | none => rw [e1] at e; cases e
  | some ds =>
    simp only [e1, Option.bind_some] at e
    cases e2 : hh ds with
    | none => rw [e2] at e; cases e
    | some d =>
      rw [e2] at e
      cases e
      exact hs H1 α1 μ1 vs ds d Q S1 (rs.views S1 e1) e2 fun v H' sm rv => q2 v H' α1 (Same.step S1 sm) (S1.same sm) rv
theorem de_blt {x : Str} {id : String} {p : Pos} {hh : List D → Option D} {rr : List V → Hp → VK → Prop} (hc : CallR X (.builtin id) rr) (hs : BlS (CvX X T) hh rr) (hm : X.mg x = none) (hv : bootBuiltins x = some (.builtin id)) (hr : DA X T E (a :: es) r) (hg : Gl X x := by rfl) (hn : x ≠ "__name__" := by decide) (hdb : (x == ("__debug__" : Str)) = false := by decide)
    (he : starEach (a :: es) X.env = (false, eval a X.env) :: starEach es X.env := by rfl) (hpl : (backTo pos (starEach es X.env)).any (·.1) = false := by rfl) : DE X T E (.Call (.Name x p) (a :: es) [] pos) (eBlt hh r) :=
  pe_imp (pe_callB hc hg hm hv hr.pa hn hdb he hpl) fun σ H Q q => blt_rd hs hr q
theorem de_bty {x : Str} {id : String} {p : Pos} {hh : List D → Option D} {rr : List V → Hp → VK → Prop} (hc : CallR X (.type id) rr) (hs : BlS (CvX X T) hh rr) (hm : X.mg x = none) (hv : bootBuiltins x = some (.type id)) (hr : DA X T E (a :: es) r) (hg : Gl X x := by rfl) (hn : x ≠ "__name__" := by decide) (hdb : (x == ("__debug__" : Str)) = false := by decide)
    (he : starEach (a :: es) X.env = (false, eval a X.env) :: starEach es X.env := by rfl) (hpl : (backTo pos (starEach es X.env)).any (·.1) = false := by rfl) : DE X T E (.Call (.Name x p) (a :: es) [] pos) (eBlt hh r) :=
  pe_imp (pe_callTy hc hg hm hv hr.pa hn hdb he hpl) fun σ H Q q => blt_rd hs hr q
end
/-! ### single builtins -/
section
variable {C : Cv}
theorem RpTs.one {H : Hp} {M : Addr → Prop} {xs : List V} {d : D} (h : RpTs C H M xs [d]) : ∃ x, xs = [x] ∧ RpT C.K H M x d := by
  cases h with
  | cons r t => cases t; exact ⟨_, rfl, r⟩
theorem RpTs.two {H : Hp} {M : Addr → Prop} {xs : List V} {d e : D} (h : RpTs C H M xs [d, e]) : ∃ x y, xs = [x, y] ∧ RpT C.K H M x d ∧ RpT C.K H M y e := by
  cases h with
  | cons r t => cases t with
    | cons r2 t => cases t; exact ⟨_, _, rfl, r, r2⟩
theorem bs_len : BlS C bLen (fun xs H Q => ∃ x n, xs = [x] ∧ LenV C.K x H n ∧ Q (.int n) H) := by
  intro H α μ xs ds z Q S rs e q
  unfold bLen at e
  split at e
  · cases e
    obtain ⟨x, rfl, r0⟩ := rs.one
    obtain ⟨p1, ys, rfl, h1, r1⟩ := r0.list
    exact ⟨_, ys.length, rfl, .inl ⟨ys, .inl h1, rfl⟩, by rw [r1.length]; exact q _ H (.refl H) (.int _)⟩
  · cases e
    obtain ⟨x, rfl, r0⟩ := rs.one
    obtain ⟨p1, ys, rfl, h1, r1⟩ := r0.tuple
    exact ⟨_, ys.length, rfl, .inr ⟨ys, h1, rfl⟩, by rw [r1.length]; exact q _ H (.refl H) (.int _)⟩
  · split at e
    · rename_i hl
      cases e
      obtain ⟨x, rfl, r0⟩ := rs.one
      have hh := r0.str
      subst hh
      exact ⟨_, _, rfl, ⟨lim_line hl, rfl⟩, q _ H (.refl H) (.int _)⟩
    · cases e
  · cases e
theorem bs_max2 : BlS C bMax2 (fun xs H Q => ∃ i j, xs = [.int i, .int j] ∧ Q (.int (if j > i then j else i)) H) := by
  intro H α μ xs ds z Q S rs e q
  unfold bMax2 at e
  split at e
  · cases e
    obtain ⟨x, y, rfl, r1, r2⟩ := rs.two
    exact ⟨_, _, by rw [r1.int, r2.int], q _ H (.refl H) (.int _)⟩
  · cases e
theorem bs_min2 : BlS C bMin2 (fun xs H Q => ∃ i j, xs = [.int i, .int j] ∧ Q (.int (if j < i then j else i)) H) := by
  intro H α μ xs ds z Q S rs e q
  unfold bMin2 at e
  split at e
  · cases e
    obtain ⟨x, y, rfl, r1, r2⟩ := rs.two
    exact ⟨_, _, by rw [r1.int, r2.int], q _ H (.refl H) (.int _)⟩
  · cases e
theorem bs_int : BlS C bInt (fun xs H Q => ((∃ i, xs = [.int i] ∧ Q (.int i) H) ∨ ∃ k, xs = [.bl k] ∧ Q (.int (if k then 1 else 0)) H) ∨ ∃ a n, xs = [.str a] ∧ PySem.intText? a = some n ∧ a.length ≤ 640 ∧ Q (.int n) H) := by
  intro H α μ xs ds z Q S rs e q
  unfold bInt at e
  split at e
  · cases e
    obtain ⟨x, rfl, r1⟩ := rs.one
    exact .inl (.inl ⟨_, by rw [r1.int], q _ H (.refl H) (.int _)⟩)
  · rename_i a
    obtain ⟨x, rfl, r1⟩ := rs.one
    cases e1 : PySem.intText? a with
    | none => rw [e1] at e; cases e
    | some n =>
      rw [e1] at e
      simp only [Option.bind_some] at e
      split at e
      · rename_i hl
        cases e
        exact .inr ⟨a, n, by rw [r1.str], e1, hl, q _ H (.refl H) (.int _)⟩
      · cases e
  · cases e
    obtain ⟨x, rfl, r1⟩ := rs.one
    exact .inl (.inr ⟨_, by rw [r1.bl], q _ H (.refl H) (.int _)⟩)
  · cases e
theorem bs_str : BlS C bStr (fun xs H Q => (∃ i, xs = [.int i] ∧ i.natAbs.log2 < 1920 ∧ Q (.str (toString i)) H) ∨ ((∃ a, xs = [.str a] ∧ Q (.str a) H) ∨ ∃ b, xs = [.bl b] ∧ Q (.str (if b then "True" else "False")) H)) := by
  intro H α μ xs ds z Q S rs e q
  unfold bStr at e
  split at e
  · split at e
    · rename_i hl
      cases e
      obtain ⟨x, rfl, r1⟩ := rs.one
      exact .inl ⟨_, by rw [r1.int], hl, q _ H (.refl H) (.str _)⟩
    · cases e
  · cases e
    obtain ⟨x, rfl, r1⟩ := rs.one
    exact .inr (.inl ⟨_, by rw [r1.str], q _ H (.refl H) (.str _)⟩)
  · cases e
    obtain ⟨x, rfl, r1⟩ := rs.one
    exact .inr (.inr ⟨_, by rw [r1.bl], q _ H (.refl H) (.str _)⟩)
  · cases e
theorem call_strB {X : Cx} : CallR X (.type "str") (fun xs H Q => ∃ b, xs = [.bl b] ∧ Q (.str (if b then "True" else "False")) H) := by
  intro pins s σ H xs us Q I r h
  obtain ⟨b, rfl, q⟩ := h
  cases r with
  | cons r1 rr =>
    cases rr
    cases r1
    exact PySem.P.str_of_bool ⟨.str _, H, I.tok _, ⟨_, rfl⟩, q⟩
theorem bs_abs : BlS C bAbs (fun xs H Q => ∃ i, xs = [.int i] ∧ Q (.int (if i < 0 then -i else i)) H) := by
  intro H α μ xs ds z Q S rs e q
  unfold bAbs at e
  split at e
  · cases e
    obtain ⟨x, rfl, r1⟩ := rs.one
    exact ⟨_, by rw [r1.int], q _ H (.refl H) (.int _)⟩
  · cases e
theorem RpAll.bools {K : PySem.W.Frag} {H : Hp} {M : Addr → Prop} : ∀ {vs : List V} {ds : List D} {k : Bool}, RpAll K H M vs ds → Mi.allB ds = some k → ∃ bs : List Bool, vs = bs.map V.bl ∧ bs.all id = k
  | _, _, _, .nil, e => by cases e; exact ⟨[], rfl, rfl⟩
  | _, .bool b :: ds, k, .cons r t, e => by
    unfold Mi.allB at e
    cases e1 : Mi.allB ds with
    | none => rw [e1] at e; cases e
    | some k' =>
      rw [e1] at e
      cases e
      obtain ⟨bs, rfl, h⟩ := RpAll.bools t e1
      cases r
      exact ⟨b :: bs, rfl, by rw [List.all_cons, h]; rfl⟩
  | _, .none :: ds, _, .cons r t, e => by cases e
  | _, .int _ :: ds, _, .cons r t, e => by cases e
  | _, .str _ :: ds, _, .cons r t, e => by cases e
  | _, .list _ :: ds, _, .cons r t, e => by cases e
  | _, .tuple _ :: ds, _, .cons r t, e => by cases e
  | _, .dict _ :: ds, _, .cons r t, e => by cases e
theorem bs_all : BlS C bAll (rAll C.K) := by
  intro H α μ xs ds z Q S rs e q
  unfold bAll at e
  split at e
  · rename_i l
    cases e1 : Mi.allB l with
    | none => rw [e1] at e; cases e
    | some k =>
      rw [e1] at e
      cases e
      obtain ⟨x, rfl, r0⟩ := rs.one
      obtain ⟨p1, ys, rfl, h1, r1⟩ := r0.list
      obtain ⟨bs, rfl, h⟩ := r1.bools e1
      exact ⟨p1, bs, rfl, .inl h1, by rw [h]; exact q _ H (.refl H) (.bl _)⟩
  · cases e
theorem RpAll.intsAll {K : PySem.W.Frag} {H : Hp} {M : Addr → Prop} : ∀ {vs : List V} {ds : List D} {ns : List Int}, RpAll K H M vs ds → intsOf ds = some ns → vs = ns.map V.int
  | _, _, _, .nil, e => by cases e; rfl
  | _, .int b :: ds, k, .cons r t, e => by
    unfold intsOf at e
    cases e1 : intsOf ds with
    | none => rw [e1] at e; cases e
    | some k' =>
      rw [e1] at e
      cases e
      cases r
      rw [RpAll.intsAll t e1]
      rfl
  | _, .none :: ds, _, .cons r t, e => by cases e
  | _, .bool _ :: ds, _, .cons r t, e => by cases e
  | _, .str _ :: ds, _, .cons r t, e => by cases e
  | _, .list _ :: ds, _, .cons r t, e => by cases e
  | _, .tuple _ :: ds, _, .cons r t, e => by cases e
  | _, .dict _ :: ds, _, .cons r t, e => by cases e
theorem insI_perm (x : Int) : ∀ l : List Int, (insI x l).Perm (x :: l)
  | [] => .refl _
  | y :: r => by
    unfold insI
    split
    · exact .refl _
    · exact ((insI_perm x r).cons y).trans (.swap x y r)
theorem isort_perm : ∀ l : List Int, (isort l).Perm l
  | [] => .refl _
  | x :: r => (insI_perm x (isort r)).trans ((isort_perm r).cons x)
theorem insI_sorted (x : Int) : ∀ l : List Int, l.Pairwise (· ≤ ·) → (insI x l).Pairwise (· ≤ ·)
  | [], _ => List.pairwise_singleton _ _
  | y :: r, h => by
    unfold insI
    split
    · rename_i hx
      refine List.pairwise_cons.mpr ⟨fun z hz => ?_, h⟩
      rcases List.mem_cons.mp hz with e | e
      · rw [e]; exact hx
      · exact Int.le_trans hx ((List.pairwise_cons.mp h).1 z e)
    · rename_i hx
      refine List.pairwise_cons.mpr ⟨fun z hz => ?_, insI_sorted x r (List.pairwise_cons.mp h).2⟩
      rcases List.mem_cons.mp ((insI_perm x r).mem_iff.mp hz) with e | e
      · rw [e]; omega
      · exact (List.pairwise_cons.mp h).1 z e
theorem isort_sorted : ∀ l : List Int, (isort l).Pairwise (· ≤ ·)
  | [] => .nil
  | x :: r => insI_sorted x _ (isort_sorted r)
theorem sorted_uniq : ∀ {a b : List Int}, a.Perm b → a.Pairwise (· ≤ ·) → b.Pairwise (· ≤ ·) → a = b
  | [], b, p, _, _ => (List.nil_perm.mp p).symm
  | x :: a, [], p, _, _ => absurd (List.perm_nil.mp p) (List.cons_ne_nil _ _)
  | x :: a, y :: b, p, ha, hb => by
    have e : x = y := by
      have h1 : x ∈ y :: b := p.mem_iff.mp List.mem_cons_self
      have h2 : y ∈ x :: a := p.mem_iff.mpr List.mem_cons_self
      rcases List.mem_cons.mp h1 with h1 | h1
      · exact h1
      · rcases List.mem_cons.mp h2 with h2 | h2
        · exact h2.symm
        · exact Int.le_antisymm ((List.pairwise_cons.mp ha).1 y h2) ((List.pairwise_cons.mp hb).1 x h1)
    subst e
    rw [sorted_uniq (List.perm_cons x |>.mp p) (List.pairwise_cons.mp ha).2 (List.pairwise_cons.mp hb).2]
theorem rpAll_ints {K : PySem.W.Frag} {H : Hp} {M : Addr → Prop} : ∀ ns : List Int, RpAll K H M (ns.map V.int) (ns.map PyData.int)
  | [] => .nil
  | n :: r => .cons (.int n) (rpAll_ints r)
theorem minI_mem : ∀ (r : List Int) (a : Int), minI a r ∈ a :: r
  | [], a => List.mem_cons_self
  | b :: r, a => by
    have h := minI_mem r (if b < a then b else a)
    unfold minI
    rcases List.mem_cons.mp h with h | h
    · rw [h]
      split
      · simp
      · simp
    · simp [h]
theorem minI_le : ∀ (r : List Int) (a : Int), ∀ y ∈ a :: r, minI a r ≤ y
  | [], a, y, h => by rw [List.mem_singleton.mp h]; exact Int.le_refl _
  | b :: r, a, y, h => by
    have ih := minI_le r (if b < a then b else a)
    unfold minI
    have h0 := ih _ List.mem_cons_self
    have h1 : (if b < a then b else a) ≤ a ∧ (if b < a then b else a) ≤ b := by split <;> omega
    rcases List.mem_cons.mp h with rfl | h
    · exact Int.le_trans h0 h1.1
    · rcases List.mem_cons.mp h with rfl | h
      · exact Int.le_trans h0 h1.2
      · exact ih y (List.mem_cons_of_mem _ h)
theorem bs_min1 : BlS C bMin1 (rMin C.K) := by
  intro H α μ xs ds z Q S rs e q
  unfold bMin1 at e
  split at e
  · rename_i l
    cases e1 : intsOf l with
    | none => rw [e1] at e; cases e
    | some ns =>
      rw [e1] at e
      cases ns with
      | nil => cases e
      | cons a r =>
        cases e
        obtain ⟨x, rfl, r0⟩ := rs.one
        obtain ⟨p1, ys, rfl, h1, r1⟩ := r0.list
        have hy := r1.intsAll e1
        subst hy
        refine ⟨p1, a :: r, rfl, .inl h1, by simp, fun m hm hle => ?_⟩
        have e2 : m = minI a r := Int.le_antisymm (hle _ (minI_mem r a)) (minI_le r a m hm)
        rw [e2]
        exact q _ H (.refl H) (.int _)
  · cases e
theorem bs_sorted : BlS C bSorted (rSortedI C.K) := by
  intro H α μ xs ds z Q S rs e q
  unfold bSorted at e
  split at e
  · rename_i l
    cases e1 : intsOf l with
    | none => rw [e1] at e; cases e
    | some ns =>
      rw [e1] at e
      cases e
      obtain ⟨x, rfl, r0⟩ := rs.one
      obtain ⟨p1, ys, rfl, h1, r1⟩ := r0.list
      have hy := r1.intsAll e1
      subst hy
      refine ⟨p1, ns, rfl, .inl h1, fun ns' p hp hs np => ?_⟩
      have he : ns' = isort ns := sorted_uniq (hp.trans (isort_perm ns).symm) hs (isort_sorted ns)
      subst he
      obtain ⟨sm, rp⟩ := rp_newL S np (rpAll_ints (isort ns))
      exact q _ _ sm rp
  · cases e
theorem RpAll.ints {K : PySem.W.Frag} {H : Hp} {M : Addr → Prop} : ∀ {vs : List V} {ds : List D} {k : Int}, RpAll K H M vs ds → sumI ds = some k → ∃ ns : List Int, vs = ns.map V.int ∧ ns.sum = k
  | _, _, _, .nil, e => by cases e; exact ⟨[], rfl, rfl⟩
  | _, .int b :: ds, k, .cons r t, e => by
    unfold sumI at e
    cases e1 : sumI ds with
    | none => rw [e1] at e; cases e
    | some k' =>
      rw [e1] at e
      cases e
      obtain ⟨bs, rfl, h⟩ := RpAll.ints t e1
      cases r
      exact ⟨b :: bs, rfl, by rw [List.sum_cons, h]⟩
  | _, .none :: ds, _, .cons r t, e => by cases e
  | _, .bool _ :: ds, _, .cons r t, e => by cases e
  | _, .str _ :: ds, _, .cons r t, e => by cases e
  | _, .list _ :: ds, _, .cons r t, e => by cases e
  | _, .tuple _ :: ds, _, .cons r t, e => by cases e
  | _, .dict _ :: ds, _, .cons r t, e => by cases e
theorem bs_sum : BlS C bSum (rSum C.K) := by
  intro H α μ xs ds z Q S rs e q
  unfold bSum at e
  split at e
  · rename_i l
    cases e1 : sumI l with
    | none => rw [e1] at e; cases e
    | some k =>
      rw [e1] at e
      cases e
      obtain ⟨x, rfl, r0⟩ := rs.one
      obtain ⟨p1, ys, rfl, h1, r1⟩ := r0.list
      obtain ⟨bs, rfl, h⟩ := r1.ints e1
      exact ⟨p1, bs, rfl, .inl h1, by rw [h]; exact q _ H (.refl H) (.int _)⟩
  · cases e
theorem bs_tup : BlS C bTup (fun xs H Q => ∃ p ys, xs = [.ref p] ∧ ((SqL C.K H p ys ∧ ∀ l, H l = none → Q (.ref l) (upd H l (.tup ys))) ∨ (SqT C.K H p ys ∧ Q (.ref p) H))) := by
  intro H α μ xs ds z Q S rs e q
  unfold bTup at e
  split at e
  · cases e
    obtain ⟨x, rfl, r0⟩ := rs.one
    obtain ⟨p1, ys, rfl, h1, r1⟩ := r0.list
    refine ⟨p1, ys, rfl, .inl ⟨.inl h1, fun p np => ?_⟩⟩
    obtain ⟨sm, rp⟩ := rp_newT np r1
    exact q _ _ sm rp
  · cases e
    obtain ⟨x, rfl, r0⟩ := rs.one
    obtain ⟨p1, ys, rfl, h1, r1⟩ := r0.tuple
    exact ⟨p1, ys, rfl, .inr ⟨h1, q _ H (.refl H) (.tup h1 r1)⟩⟩
  · cases e
theorem bs_lst : BlS C bLst (fun xs H Q => ∃ p ys, xs = [.ref p] ∧ (SqL C.K H p ys ∨ SqT C.K H p ys) ∧ ∀ l, H l = none → Q (.ref l) (upd H l (.lst ys))) := by
  intro H α μ xs ds z Q S rs e q
  unfold bLst at e
  split at e
  · cases e
    obtain ⟨x, rfl, r0⟩ := rs.one
    obtain ⟨p1, ys, rfl, h1, r1⟩ := r0.list
    refine ⟨p1, ys, rfl, .inl (.inl h1), fun p np => ?_⟩
    obtain ⟨sm, rp⟩ := rp_newL S np r1
    exact q _ _ sm rp
  · cases e
    obtain ⟨x, rfl, r0⟩ := rs.one
    obtain ⟨p1, ys, rfl, h1, r1⟩ := r0.tuple
    refine ⟨p1, ys, rfl, .inr h1, fun p np => ?_⟩
    obtain ⟨sm, rp⟩ := rp_newL S np r1
    exact q _ _ sm rp
  · cases e
/-! ### isinstance -/
def tyN : Ty → String
  | .int => "int"
  | .bool => "bool"
  | .str => "str"
  | .tuple => "tuple"
  | .list => "list"
def dTy : D → String
  | .none => "NoneType"
  | .bool _ => "bool"
  | .int _ => "int"
  | .str _ => "str"
  | .list _ => "list"
  | .tuple _ => "tuple"
  | .dict _ => "dict"
theorem RpT.ty {H : Hp} {M : Addr → Prop} {v : V} {d : D} (h : RpT C.K H M v d) : TyX C.K H v (.type (dTy d)) := by
  cases d with
  | none => rw [h.none]; exact .base .non
  | bool b => rw [h.bl]; exact .base (.bl b)
  | int b => rw [h.int]; exact .base (.int b)
  | str b => rw [h.str]; exact .base (.str b)
  | list l =>
    obtain ⟨p1, ys, rfl, h1, r1⟩ := h.list
    rcases h1 with h1 | ⟨o, h1⟩
    · exact .base (.lst h1)
    · exact .base (.frz h1)
  | tuple l =>
    obtain ⟨p1, ys, rfl, h1, r1⟩ := h.tuple
    rcases h1 with (h1 | ⟨o, h1⟩) | ⟨o, its, n, h1, h2, _⟩
    · exact .base (.tup h1)
    · exact .fTuple h1
    · exact .kTuple h1 h2
  | dict l => exact h.nodict.elim
theorem kit_is (t : Ty) (d : D) : kitB (dTy d) (tyN t) = some (isTy t d) := by
  cases t <;> cases d <;> (simp only [dTy, tyN, isTy]; decide +kernel)
end
section
variable {X : Cx} {T : List (Addr × Str)} {E : XK} {j : Nat} {pos : Pos} {a b c : Expr} {f g h : EF} {es : List Expr} {r : AF}
theorem de_isi (t : Ty) {x y : Str} {p p2 : Pos} (hm : X.mg x = none) (hv : bootBuiltins x = some (.builtin "isinstance")) (hm2 : X.mg y = none) (hv2 : bootBuiltins y = some (.type (tyN t))) (ha : DE X T E a f) (hg : Gl X x := by rfl) (hg2 : Gl X y := by rfl) (hn : x ≠ "__name__" := by decide) (hn2 : y ≠ "__name__" := by decide) (hdb : (x == ("__debug__" : Str)) = false := by decide) (hdb2 : (y == ("__debug__" : Str)) = false := by decide)
    (he : starEach (a :: [.Name y p2]) X.env = (false, eval a X.env) :: starEach [.Name y p2] X.env := by rfl) (hpl : (backTo pos (starEach [.Name y p2] X.env)).any (·.1) = false := by rfl) (he2 : starEach [.Name y p2] X.env = (false, eval (.Name y p2) X.env) :: starEach [] X.env := by rfl) :
    DE X T E (.Call (.Name x p) [a, .Name y p2] [] pos) (eIsi t f) :=
  pe_imp (pe_callB call_isi hg hm hv (pa_cons ha (pa_cons (pe_bltn hg2 hm2 hv2 (v := .ty (tyN t)) rfl hn2 hdb2) pa_nil he2) he) hn hdb he hpl) fun σ H Q ⟨ρ, α, μ, S, sl, q⟩ =>
    tD_bind S sl q fun v w H1 α1 μ1 st S1 sl1 rv q1 => by
      obtain ⟨z, e, q2⟩ := PQ.ofO q1
      cases e1 : Mi.view μ1 w with
      | none => rw [e1] at e; cases e
      | some d =>
        rw [e1] at e
        cases e
        exact ⟨v, .ty (tyN t), .type (dTy d), .type (tyN t), isTy t d, rfl, .ty _, (rv.view S1 e1).ty, kit_ty (kit_is t d), PQ.bl S1 q2⟩
/-! ### defs -/
/-- a def's promise: it hands back what the mirror does -/
def spD (C : Cv) (g : GF) : Sp := fun vs H Q E => ∃ ws α μ, Stor C H α μ ∧ RpWs C H α μ vs ws ∧ PQ C E Q H α μ (g ws μ)
structure HasFn (P : Program) (w : World) (K : PySem.W.Frag) (mg : Str → Option Value) (base : Heap) (T : List (Addr × Str)) (k : Nat) (x : Str) (g : GF) : Prop where
  ex : ∃ f fd ps ds dvs dd g0, mg x = some (.ref f) ∧ PySem.W.keepIn K (.ref f) = true ∧ Binds K fd ps ds ∧ Vals dvs ds ∧ (∀ H M, RpAll K H M dvs dd) ∧ (∀ ws μ, g ws μ = g0 (ws ++ dd.map W.d) μ) ∧
    FnOk P w K mg base (L2N.CX P w) k f fd ps (spD ⟨K, mg, T⟩ g0)
theorem HasFn.mono {P : Program} {w : World} {K : PySem.W.Frag} {mg : Str → Option Value} {base : Heap} {T : List (Addr × Str)} {k k' : Nat} {x : Str} {g : GF} (h : HasFn P w K mg base T k x g) (hk : k ≤ k') : HasFn P w K mg base T k' x g := by
  obtain ⟨f, fd, ps, ds, dvs, dd, g0, h1, h2, h3, h4, h5, h6, h7⟩ := h.ex
  exact ⟨f, fd, ps, ds, dvs, dd, g0, h1, h2, h3, h4, h5, h6, h7.mono hk⟩
theorem RpAll.ws {C : Cv} {H : Hp} {α : Al} {μ : Sto} : ∀ {vs : List V} {ds : List PyData}, RpAll C.K H (Own α μ) vs ds → RpWs C H α μ vs (ds.map W.d)
  | _, _, .nil => .nil
  | _, _, .cons r t => .cons r (RpAll.ws t)
theorem RpWs.append {C : Cv} {H : Hp} {α : Al} {μ : Sto} : ∀ {vs us : List V} {ws zs : List W}, RpWs C H α μ vs ws → RpWs C H α μ us zs → RpWs C H α μ (vs ++ us) (ws ++ zs)
  | _, _, _, _, .nil, s => s
  | _, _, _, _, .cons r t, s => .cons r (RpWs.append t s)
theorem de_call {k : Nat} {x : Str} {gf : GF} {p : Pos} (ck : CK X E j) (hf : HasFn X.prog X.w X.K X.mg X.base T k x gf) (hr : DA X T E (a :: es) r) (hk : k ≤ j := by decide) (hg : Gl X x := by rfl) (hdb : (x == ("__debug__" : Str)) = false := by decide)
    (he : starEach (a :: es) X.env = (false, eval a X.env) :: starEach es X.env := by rfl) (hpl : (backTo pos (starEach es X.env)).any (·.1) = false := by rfl) : DE X T E (.Call (.Name x p) (a :: es) [] pos) (eCall gf r) := by
  obtain ⟨f, fd, ps, ds, dvs, dd, g0, h1, h2, h3, h4, h5, h6, h7⟩ := hf.ex
  refine pe_imp (pe_call h7 (ck.room.mono hk) hg h1 h2 h3 h4 ck.passes hr.pa hdb he hpl) fun σ H Q ⟨ρ, α, μ, S, sl, q⟩ => ?_
  refine hr.read (C := CvX X T) S sl q fun vs ws H1 α1 μ1 st S1 sl1 rs ln q1 => ?_
  rw [h6] at q1
  exact ⟨ws ++ dd.map W.d, α1, μ1, S1, rs.append (RpAll.ws (h5 _ _)), q1⟩
theorem de_call0 {k : Nat} {x : Str} {gf : GF} {p : Pos} (ck : CK X E j) (hf : HasFn X.prog X.w X.K X.mg X.base T k x gf) (hk : k ≤ j := by decide) (hg : Gl X x := by rfl) (hdb : (x == ("__debug__" : Str)) = false := by decide) : DE X T E (.Call (.Name x p) [] [] pos) (eCall gf aNil) := by
  obtain ⟨f, fd, ps, ds, dvs, dd, g0, h1, h2, h3, h4, h5, h6, h7⟩ := hf.ex
  refine pe_imp (pe_call0 h7 (ck.room.mono hk) hg h1 h2 h3 h4 ck.passes hdb) fun σ H Q ⟨ρ, α, μ, S, sl, q⟩ => ?_
  have q : PQ (CvX X T) E Q H α μ (gf [] μ) := q
  rw [h6] at q
  exact ⟨_, α, μ, S, RpAll.ws (h5 _ _), q⟩
/-- what is known of a def of the top: it stands there, its parameters are bound in their order -/
structure DefFact (K : PySem.W.Frag) (mg : Str → Option Value) (x : Str) (st : Stmt) (ps : List Str) : Prop where
  ex : ∃ f fd dvs kws, FunD K x x (defArgs st) (defBody st) (defScope st) dvs kws f fd ∧ mg x = some (.ref f) ∧ Binds K fd ps []
/-- .. with defaults for the last ones -/
structure DefFact1 (K : PySem.W.Frag) (mg : Str → Option Value) (x : Str) (st : Stmt) (ps : List Str) (dd : List PyData) : Prop where
  ex : ∃ f fd dvs kws ds, FunD K x x (defArgs st) (defBody st) (defScope st) dvs kws f fd ∧ mg x = some (.ref f) ∧ Binds K fd ps ds ∧ Vals dvs ds ∧ (∀ H M, RpAll K H M dvs dd)
end
end L3

set_option Elab.async false
set_option linter.all false
set_option maxRecDepth 100000
/-! Statements, loops, comprehensions, defs. -/
namespace L3
open PySem PySem.Spec PyProof.Rows L2 Mi

def QS (C : Cv) (E : XK) (D : Ends) (H : Hp) (α : Al) (μ : Sto) : RS → Prop
  | .nx ρ' μ' => ∀ σ' H' α', Step H α μ H' α' μ' → Stor C H' α' μ' → Sl C H' α' μ' σ' ρ' → D.nx σ' H'
  | .rt w μ' => ∀ v H' α', Step H α μ H' α' μ' → Stor C H' α' μ' → RpW C H' α' μ' v w → D.rt v H'
  | .bk ρ' μ' => ∀ σ' H' α', Step H α μ H' α' μ' → Stor C H' α' μ' → Sl C H' α' μ' σ' ρ' → D.bk σ' H'
  | .ct ρ' μ' => ∀ σ' H' α', Step H α μ H' α' μ' → Stor C H' α' μ' → Sl C H' α' μ' σ' ρ' → D.ct σ' H'
  | .er x μ' => ∀ cls d H' α', Step H α μ H' α' μ' → Stor C H' α' μ' → RpX C H' cls d x → E cls d H'
  | .no => False
theorem QS.step {C : Cv} {E : XK} {D : Ends} {H H1 : Hp} {α α1 : Al} {μ μ1 : Sto} {r : RS} (h : QS C E D H α μ r) (st : Step H α μ H1 α1 μ1) : QS C E D H1 α1 μ1 r := by
  cases r with
  | nx w μ' => exact fun v H' α' s S q => h v H' α' (st.trans s) S q
  | rt w μ' => exact fun v H' α' s S q => h v H' α' (st.trans s) S q
  | bk w μ' => exact fun v H' α' s S q => h v H' α' (st.trans s) S q
  | ct w μ' => exact fun v H' α' s S q => h v H' α' (st.trans s) S q
  | er x μ' => exact fun cls d H' α' s S q => h cls d H' α' (st.trans s) S q
  | no => exact h
def tS (C : Cv) (E : XK) (F : SF) : TS := fun D σ H => ∃ ρ α μ, Stor C H α μ ∧ Sl C H α μ σ ρ ∧ QS C E D H α μ (F ρ μ)
def DS (X : Cx) (T : List (Addr × Str)) (E : XK) (st : Stmt) (F : SF) : Prop := PS X st (tS (CvX X T) E F)
def DSs (X : Cx) (T : List (Addr × Str)) (E : XK) (st : List Stmt) (F : SF) : Prop := PSs X st (tS (CvX X T) E F)
section
variable {C : Cv} {E : XK} {D : Ends} {Q : VK} {H : Hp} {α : Al} {μ : Sto} {σ : L2.St} {ρ : Mi.Env} {f : EF}
theorem tD_bindS {Q' : VK} {k : W → Sto → RS} (S : Stor C H α μ) (sl : Sl C H α μ σ ρ) (h : QS C E D H α μ ((f ρ μ).bindS k))
    (cont : ∀ v w H1 α1 μ1, Step H α μ H1 α1 μ1 → Stor C H1 α1 μ1 → Sl C H1 α1 μ1 σ ρ → RpW C H1 α1 μ1 v w → QS C E D H1 α1 μ1 (k w μ1) → Q' v H1) : tD C E f σ H Q' := by
  refine ⟨ρ, α, μ, S, sl, ?_⟩
  cases e : f ρ μ with
  | ok w μ1 =>
    rw [e] at h
    exact fun v H1 α1 st S1 r => cont v w H1 α1 μ1 st S1 (sl.step st) r (QS.step (r := k w μ1) h st)
  | er x μ1 => rw [e] at h; exact h
  | no => rw [e] at h; exact (show False from h).elim
theorem QS.nx (S : Stor C H α μ) (sl : Sl C H α μ σ ρ) (h : QS C E D H α μ (.nx ρ μ)) : D.nx σ H := h σ H α (.refl _ _ _) S sl
theorem QS.rt {v : V} {w : W} (S : Stor C H α μ) (r : RpW C H α μ v w) (h : QS C E D H α μ (.rt w μ)) : D.rt v H := h v H α (.refl _ _ _) S r
theorem tS_seq {F G : SF} (h : tS C E (sSeq F G) D σ H) : tS C E F { D with nx := tS C E G D } σ H := by
  obtain ⟨ρ, α, μ, S, sl, q⟩ := h
  refine ⟨ρ, α, μ, S, sl, ?_⟩
  unfold sSeq at q
  cases e : F ρ μ with
  | nx ρ1 μ1 =>
    rw [e] at q
    exact fun σ' H' α' st S' sl' => ⟨ρ1, α', μ1, S', sl', QS.step q st⟩
  | rt w μ' => rw [e] at q; exact q
  | bk w μ' => rw [e] at q; exact q
  | ct w μ' => rw [e] at q; exact q
  | er x μ' => rw [e] at q; exact q
  | no => rw [e] at q; exact q
theorem tD_testS {Q' : VK} {k : Bool → Sto → RS} (S : Stor C H α μ) (sl : Sl C H α μ σ ρ) (h : QS C E D H α μ (RS.test (f ρ μ) k))
    (cont : ∀ b H1 α1 μ1, Step H α μ H1 α1 μ1 → Stor C H1 α1 μ1 → Sl C H1 α1 μ1 σ ρ → QS C E D H1 α1 μ1 (k b μ1) → Q' (.bl b) H1) : tD C E f σ H Q' := by
  refine tD_bindS (D := D) S sl h fun v w H1 α1 μ1 st S1 sl1 r q => ?_
  cases w with
  | d d =>
    cases d with
    | bool b => cases r; exact cont b H1 α1 μ1 st S1 sl1 q
    | none => exact (show False from q).elim
    | int i => exact (show False from q).elim
    | str i => exact (show False from q).elim
    | list i => exact (show False from q).elim
    | tuple i => exact (show False from q).elim
    | dict i => exact (show False from q).elim
  | m k => exact (show False from q).elim
  | f k => exact (show False from q).elim
  | x k => exact (show False from q).elim
  | e _ _ => exact (show False from q).elim
  | es _ => exact (show False from q).elim
/-! ### one's own list is written, or given away -/
theorem own_set {k : Nat} {o : Option Cell} {a : Addr} (h : Own α (μ.set k o) a) : Own α μ a ∨ (∃ c, o = some c ∧ α.own[k]? = some a) := by
  rcases h with ⟨j, c, h1, h2⟩ | h
  · by_cases e : k = j
    · subst e
      rw [List.getElem?_set] at h2
      simp only [if_true] at h2
      split at h2
      · exact .inr ⟨c, by simpa using h2, h1⟩
      · cases h2
    · rw [List.getElem?_set_ne e] at h2
      exact .inl (.inl ⟨j, c, h1, h2⟩)
  · exact .inl (.inr h)
theorem own_set' {k : Nat} {c c' : Cell} {a : Addr} (hk : μ[k]? = some (some c)) : Own α (μ.set k (some c')) a ↔ Own α μ a := by
  constructor
  · intro h
    rcases own_set h with h | ⟨_, _, h⟩
    · exact h
    · exact .inl ⟨k, c, h, hk⟩
  · rintro (⟨j, d, h1, h2⟩ | h)
    · by_cases e : k = j
      · subst e
        exact .inl ⟨k, c', h1, by rw [List.getElem?_set_self (List.getElem?_eq_some_iff.mp hk).1]⟩
      · exact .inl ⟨j, d, h1, by rw [List.getElem?_set_ne e]; exact h2⟩
    · exact .inr h
theorem nodup_at : ∀ {l : List Addr} {k j : Nat} {a : Addr}, l.Nodup → l[k]? = some a → l[j]? = some a → k = j
  | [], _, _, _, _, h, _ => by simp at h
  | x :: l, 0, 0, a, _, _, _ => rfl
  | x :: l, 0, j + 1, a, n, h1, h2 => by
    have e : x = a := by simpa using h1
    subst e
    exact absurd (List.mem_of_getElem? (by simpa using h2)) (List.nodup_cons.mp n).1
  | x :: l, k + 1, 0, a, n, h1, h2 => by
    have e : x = a := by simpa using h2
    subst e
    exact absurd (List.mem_of_getElem? (by simpa using h1)) (List.nodup_cons.mp n).1
  | x :: l, k + 1, j + 1, a, n, h1, h2 => congrArg (· + 1) (nodup_at (List.nodup_cons.mp n).2 (by simpa using h1) (by simpa using h2))
theorem Stor.uniq (S : Stor C H α μ) {k j : Nat} {a : Addr} (h1 : α.own[k]? = some a) (h2 : α.own[j]? = some a) : k = j := by
  exact nodup_at (List.nodup_append.mp S.nd).1 h1 h2
theorem Stor.nohid (S : Stor C H α μ) {k : Nat} {a : Addr} (h1 : α.own[k]? = some a) : a ∉ α.hid := fun z =>
  (List.nodup_append.mp S.nd).2.2 a (List.mem_of_getElem? h1) a z rfl
/-- a changing list is written -/
theorem own_write (S : Stor C H α μ) {k : Nat} {l l' : List PyData} {a : Addr} {xs' : List V} (hk : μ[k]? = some (some (.lst l))) (ha : α.own[k]? = some a) (r : RpAll C.K H (Own α μ) xs' l') :
    Step H α μ (upd H a (.lst xs')) α (μ.set k (some (.lst l'))) ∧ Stor C (upd H a (.lst xs')) α (μ.set k (some (.lst l'))) := by
  obtain ⟨a', ha', xs, hx, rx⟩ := S.cell k _ hk
  rw [ha] at ha'; cases ha'
  have oa : Own α μ a := .inl ⟨k, _, ha, hk⟩
  have st : Step H α μ (upd H a (.lst xs')) α (μ.set k (some (.lst l'))) := by
    refine ⟨⟨fun b o h n _ => ⟨?_, fun z => n ((own_set' hk).mp z)⟩, fun b ys h => ?_, fun b o u h => ?_⟩, fun _ _ h => h, rfl, fun b hb => ?_⟩
    · rw [upd_ne (fun e => n (by rw [e]; exact oa))]; exact h
    · rw [upd_ne (fun e => by rw [e, hx] at h; cases h)]; exact h
    · rw [upd_ne (fun e => by rw [e, hx] at h; cases h)]; exact h
    · rw [upd_ne (fun e => S.nohid ha (by rw [← e]; exact hb))]
  refine ⟨st, by rw [List.length_set]; exact S.len, S.nd, fun b hb => ?_, fun j c h => ?_, ?_⟩
  · by_cases e : b = a
    · rw [e]; exact ⟨_, upd_same, fun _ z => by cases z⟩
    · rw [upd_ne e]; exact S.there b hb
  · by_cases e : k = j
    · subst e
      rw [List.getElem?_set_self (List.getElem?_eq_some_iff.mp hk).1] at h
      cases h
      exact ⟨a, ha, xs', upd_same, r.ext st.ext⟩
    · rw [List.getElem?_set_ne e] at h
      obtain ⟨b, h1, h2⟩ := S.cell j c h
      have ne : b ≠ a := fun z => e (S.uniq ha (by rw [← z]; exact h1))
      refine ⟨b, h1, ?_⟩
      cases c with
      | lst l => obtain ⟨ys, e1, e2⟩ := h2; exact ⟨ys, by rw [upd_ne ne]; exact e1, e2.ext st.ext⟩
      | ins c fs => obtain ⟨A, dx, gs, e1, e2, e3, e4⟩ := h2; exact ⟨A, dx, gs, e1, by rw [upd_ne ne]; exact e2, e3, e4.ext st.ext⟩
  · intro p hp
    obtain ⟨ps, h1, h2, h3⟩ := S.tabs p hp
    have ne : p.1 ≠ a := fun e => by rw [e, hx] at h1; cases h1
    refine ⟨ps, by rw [upd_ne ne]; exact h1, h2, fun pos cv hc => ?_⟩
    obtain ⟨c, e1, e2⟩ := h3 pos cv hc
    refine ⟨c, e1, ?_⟩
    rw [upd_ne (fun e => by rw [e, hx] at e2; cases e2)]
    exact e2
/-- a changing list becomes plain data -/
theorem own_give (S : Stor C H α μ) {k : Nat} {l : List PyData} {a : Addr} (hk : μ[k]? = some (some (.lst l))) (ha : α.own[k]? = some a) :
    Step H α μ H α (μ.set k none) ∧ Stor C H α (μ.set k none) ∧ Rp C.K H (Own α (μ.set k none)) (.ref a) (.list l) := by
  obtain ⟨a', ha', xs, hx, rx⟩ := S.cell k _ hk
  rw [ha] at ha'; cases ha'
  have st : Step H α μ H α (μ.set k none) := by
    refine ⟨⟨fun b o h n _ => ⟨h, fun z => ?_⟩, fun b ys h => h, fun b o u h => h⟩, fun _ _ h => h, rfl, fun b hb => rfl⟩
    rcases own_set z with z | ⟨c, z, _⟩
    · exact n z
    · cases z
  refine ⟨st, ⟨by rw [List.length_set]; exact S.len, S.nd, S.there, fun j c h => ?_, S.tabs⟩, .lst (.inl hx) (fun z => ?_) (rx.ext st.ext)⟩
  · by_cases e : k = j
    · subst e
      rw [List.getElem?_set_self (List.getElem?_eq_some_iff.mp hk).1] at h
      cases h
    · rw [List.getElem?_set_ne e] at h
      obtain ⟨b, h1, h2⟩ := S.cell j c h
      refine ⟨b, h1, ?_⟩
      cases c with
      | lst l => obtain ⟨ys, e1, e2⟩ := h2; exact ⟨ys, e1, e2.ext st.ext⟩
      | ins c fs => obtain ⟨A, dx, gs, e1, e2, e3, e4⟩ := h2; exact ⟨A, dx, gs, e1, e2, e3, e4.ext st.ext⟩
  · rcases z with ⟨j, c, h1, h2⟩ | z
    · have e := S.uniq ha h1
      subst e
      rw [List.getElem?_set_self (List.getElem?_eq_some_iff.mp hk).1] at h2
      cases h2
    · exact S.nohid ha z
end

section
variable {X : Cx} {T : List (Addr × Str)} {E : XK} {j : Nat} {pos : Pos} {a b c : Expr} {f g h : EF} {st : Stmt} {rest body : List Stmt} {F G : SF}
theorem dss_nil : DSs X T E [] sNil := pss_imp pss_nil fun D σ H ⟨ρ, α, μ, S, sl, q⟩ => QS.nx S sl q
theorem dss_cons (h1 : DS X T E st F) (h2 : DSs X T E rest G) : DSs X T E (st :: rest) (sSeq F G) := pss_imp (pss_cons h1 h2) fun D σ H q => tS_seq q
theorem dss_one (h1 : DS X T E st F) : DSs X T E [st] F := pss_one h1
theorem ds_pass : DS X T E (.Pass pos) sNil := ps_imp ps_pass fun D σ H ⟨ρ, α, μ, S, sl, q⟩ => QS.nx S sl q
theorem ds_break : DS X T E (.Break pos) sBreak := ps_imp ps_break fun D σ H ⟨ρ, α, μ, S, sl, q⟩ => q σ H α (.refl _ _ _) S sl
theorem ds_cont : DS X T E (.Continue pos) sCont := ps_imp ps_continue fun D σ H ⟨ρ, α, μ, S, sl, q⟩ => q σ H α (.refl _ _ _) S sl
theorem ds_expr (ha : DE X T E a f) (hs : swapsWith a none pos.line X.env = pure false := by rfl) : DS X T E (.Expr a pos) (sDrop f) :=
  ps_imp (ps_expr ha hs) fun D σ H ⟨ρ, α, μ, S, sl, q⟩ => tD_bindS S sl q fun v w H1 α1 μ1 st S1 sl1 r q1 => QS.nx S1 sl1 q1
theorem ds_ret (ha : DE X T E a f) : DS X T E (.Return (some a) pos) (sRet f) :=
  ps_imp (ps_ret ha) fun D σ H ⟨ρ, α, μ, S, sl, q⟩ => tD_bindS S sl q fun v w H1 α1 μ1 st S1 sl1 r q1 => QS.rt S1 r q1
theorem ds_retN : DS X T E (.Return none pos) (sRet eNon) :=
  ps_imp ps_retN fun D σ H ⟨ρ, α, μ, S, sl, q⟩ => QS.rt (w := .d .none) S .non q
theorem ds_retF (ha : DE X T E a f) : DS X T E (.Return (some a) pos) (sRetF f) :=
  ps_imp (ps_ret ha) fun D σ H ⟨ρ, α, μ, S, sl, q⟩ => tD_bindS S sl q fun v w H1 α1 μ1 st S1 sl1 r q1 => by
    cases w with
    | d d => exact QS.rt S1 r q1
    | f x => exact (show False from q1).elim
    | x k => exact (show False from q1).elim
    | e _ _ => exact (show False from q1).elim
    | es _ => exact (show False from q1).elim
    | m k =>
      obtain ⟨a, ha, rfl⟩ := r
      cases e : mlist μ1 k with
      | none => simp [Mi.view, e] at q1; exact (show False from q1).elim
      | some l =>
        simp [Mi.view, e] at q1
        obtain ⟨st2, S2, r2⟩ := own_give S1 (mlist_at e) ha
        exact q1 _ _ _ st2 S2 r2
theorem ds_set (i : Nat) {x : Str} {p' : Pos} (ck : CK X E j) (ha : DE X T E a f) (hi : X.N[i]? = some x := by rfl) (hx : Loc X.env.scope x := by first | exact Or.inl rfl | exact Or.inr rfl) (hs : swapsWith a (some (.Name x p')) pos.line X.env = pure false := by rfl)
    (hf : X.fn x = true ∨ X.env.scope.names.lookup x = some .local := by first | exact Or.inl rfl | exact Or.inr rfl) : DS X T E (.Assign [.Name x p'] a pos) (sAsg i f) :=
  ps_imp (ps_set ck.nd hi hx ha hs hf) fun D σ H ⟨ρ, α, μ, S, sl, q⟩ => tD_bindS S sl q fun v w H1 α1 μ1 st S1 sl1 r q1 => QS.nx S1 (sl1.set r i) q1
theorem ds_setN (i : Nat) {x : Str} {p' : Pos} (nd : X.N.Nodup) (ha : DE X T E a f) (hi : X.N[i]? = some x := by rfl) (hx : Loc X.env.scope x := by first | exact Or.inl rfl | exact Or.inr rfl) (hs : swapsWith a (some (.Name x p')) pos.line X.env = pure false := by rfl)
    (hf : X.fn x = true ∨ X.env.scope.names.lookup x = some .local := by first | exact Or.inl rfl | exact Or.inr rfl) : DS X T E (.Assign [.Name x p'] a pos) (sAsg i f) :=
  ps_imp (ps_set nd hi hx ha hs hf) fun D σ H ⟨ρ, α, μ, S, sl, q⟩ => tD_bindS S sl q fun v w H1 α1 μ1 st S1 sl1 r q1 => QS.nx S1 (sl1.set r i) q1
theorem ds_par (i k : Nat) {x y : Str} {px py pt : Pos} {kt k2 pt2} (ck : CK X E j) (ha : DE X T E a f) (hb : DE X T E b g) (hi : X.N[i]? = some x := by rfl) (hj : X.N[k]? = some y := by rfl) (hij : i ≠ k := by decide) (hx : X.env.scope.names.lookup x = some .local := by rfl) (hy : X.env.scope.names.lookup y = some .local := by rfl)
    (hw : swappedStores [.Tuple [.Name x px, .Name y py] kt pt] (.Tuple [a, b] k2 pt2) X.env = pure (some [x, y]) := by rfl)
    (hs : swapsWithSole [.Tuple [.Name x px, .Name y py] kt pt] (.Tuple [a, b] k2 pt2) pos.line X.env = pure false := by rfl)
    (hs1 : starEach [a, b] X.env = (false, eval a X.env) :: starEach [b] X.env := by rfl) (hs2 : starEach [b] X.env = (false, eval b X.env) :: starEach [] X.env := by rfl) :
    DS X T E (.Assign [.Tuple [.Name x px, .Name y py] kt pt] (.Tuple [a, b] k2 pt2) pos) (sPar i k f g) :=
  ps_imp (ps_par ck.calm ck.nd hi hj hij hx hy (pa_cons ha (pa_cons hb pa_nil hs2) hs1) hw hs) fun D σ H ⟨ρ, α, μ, S, sl, q⟩ => tD_bindS S sl q fun v w H1 α1 μ1 st S1 sl1 r q1 => tD_bindS S1 sl1 q1 fun v2 w2 H2 α2 μ2 st2 S2 sl2 r2 q2 =>
    ⟨v, v2, rfl, QS.nx S2 ((sl2.set (r.step st2) i).set r2 k) q2⟩
theorem ds_if (hc : DT X T E c f) (h1 : DSs X T E body F) (h2 : DSs X T E rest G) : DS X T E (.If c body rest pos) (sIf f F G) :=
  ps_imp (ps_if hc h1 h2) fun D σ H ⟨ρ, α, μ, S, sl, q⟩ => tD_testS S sl q fun k H1 α1 μ1 st S1 sl1 q1 => ⟨k, rfl, by
    cases k with
    | true => rw [if_pos rfl] at q1 ⊢; exact ⟨ρ, α1, μ1, S1, sl1, q1⟩
    | false => rw [if_neg Bool.false_ne_true] at q1 ⊢; exact ⟨ρ, α1, μ1, S1, sl1, q1⟩⟩
/-! ### targets -/
/-- only these slots are otherwise -/
def Only (ks : List Nat) (σ σ1 : L2.St) : Prop := σ1.length = σ.length ∧ ∀ k, k ∉ ks → σ1[k]? = σ[k]?
theorem wipe_at (σ : L2.St) (k : Nat) : ∀ vs : List Nat, (L2.wipe σ vs)[k]? = if k ∈ vs then (σ[k]?).map fun _ => none else σ[k]?
  | [] => by simp [L2.wipe]
  | i :: r => by
    have ih := wipe_at σ k r
    show ((L2.wipe σ r).set i none)[k]? = _
    by_cases e : i = k
    · subst e
      rw [List.getElem?_set]
      simp only [if_true, List.mem_cons, true_or]
      split
      · rename_i h
        rw [L2.wipe_length] at h
        rw [List.getElem?_eq_getElem h]
        rfl
      · rename_i h
        rw [L2.wipe_length] at h
        rw [List.getElem?_eq_none (by omega)]
        rfl
    · rw [List.getElem?_set_ne e, ih]
      have : (k ∈ i :: r) ↔ k ∈ r := by
        rw [List.mem_cons]
        exact ⟨fun h => h.elim (fun z => absurd z.symm e) id, .inr⟩
      simp only [this]
theorem Only.wipe {ks vs : List Nat} {σ σ1 : L2.St} (h : Only ks σ σ1) (hs : ∀ k ∈ ks, k ∈ vs) : L2.wipe σ1 vs = L2.wipe σ vs := by
  refine List.ext_getElem? fun k => ?_
  rw [wipe_at, wipe_at]
  by_cases hk : k ∈ vs
  · rw [if_pos hk, if_pos hk]
    have l1 := h.1
    by_cases hl : k < σ.length
    · rw [List.getElem?_eq_getElem (show k < σ1.length by omega), List.getElem?_eq_getElem hl]
      rfl
    · rw [List.getElem?_eq_none (show σ1.length ≤ k by omega), List.getElem?_eq_none (show σ.length ≤ k by omega)]
  · rw [if_neg hk, if_neg hk]
    exact h.2 k fun z => hk (hs k z)
def tG (C : Cv) (t : TF) (ks : List Nat) : TG := fun v σ H Q => ∃ ρ α μ d ρ1, Stor C H α μ ∧ Sl C H α μ σ ρ ∧ Rp C.K H (Own α μ) v d ∧ t d ρ = some ρ1 ∧ ∀ σ1, Only ks σ σ1 → Sl C H α μ σ1 ρ1 → Q σ1 H
def DG (X : Cx) (T : List (Addr × Str)) (tg : Expr) (t : TF) (ks : List Nat) : Prop := PG X tg (tG (CvX X T) t ks)
theorem pg_imp {tg : Expr} {t t' : TG} (h : PG X tg t) (i : ∀ v σ H Q, t' v σ H Q → t v σ H Q) : PG X tg t' := ⟨fun pins s σ H v u Q I r q => h.run pins s σ H v u Q I r (i _ _ _ _ q)⟩
theorem pgs_imp {tg : List Expr} {t t' : TGs} (h : PGs X tg t) (i : ∀ v σ H Q, t' v σ H Q → t v σ H Q) : PGs X tg t' := ⟨fun pins s σ H v u Q I r q => h.run pins s σ H v u Q I r (i _ _ _ _ q)⟩
theorem dg_name (i : Nat) {x : Str} (nd : X.N.Nodup) (hi : X.N[i]? = some x := by rfl) (hx : Loc X.env.scope x := by first | exact Or.inl rfl | exact Or.inr rfl) (hf : X.fn x = true ∨ X.env.scope.names.lookup x = some .local := by first | exact Or.inl rfl | exact Or.inr rfl) : DG X T (.Name x pos) (tName i) [i] :=
  pg_imp (pg_name nd hi hx hf) fun v σ H Q ⟨ρ, α, μ, d, ρ1, S, sl, r, e, q⟩ => by
    cases e
    exact q _ ⟨by simp, fun k hk => List.getElem?_set_ne fun e => hk (by simp [e])⟩ (sl.set (w := .d d) r i)
structure DGs (X : Cx) (T : List (Addr × Str)) (es : List Expr) (ts : List TF) (ks : List Nat) : Prop where
  pgs : PGs X es (fun vs σ H Q => ∃ ρ α μ ds ρ1, Stor (CvX X T) H α μ ∧ Sl (CvX X T) H α μ σ ρ ∧ RpAll X.K H (Own α μ) vs ds ∧ tTups ts ds ρ = some ρ1 ∧ ∀ σ1, Only ks σ σ1 → Sl (CvX X T) H α μ σ1 ρ1 → Q σ1 H)
  len : es.length = ts.length
theorem dgs_nil : DGs X T [] [] [] := by
  refine ⟨pgs_imp pgs_nil fun v σ H Q ⟨ρ, α, μ, ds, ρ1, S, sl, r, e, q⟩ => ?_, rfl⟩
  cases r with
  | nil => cases e; exact ⟨rfl, q _ ⟨rfl, fun _ _ => rfl⟩ sl⟩
  | cons r t => cases e
theorem Only.trans {ks ls : List Nat} {σ σ1 σ2 : L2.St} (a : Only ks σ σ1) (b : Only ls σ1 σ2) : Only (ks ++ ls) σ σ2 :=
  ⟨b.1.trans a.1, fun k hk => (b.2 k fun z => hk (List.mem_append_right _ z)).trans (a.2 k fun z => hk (List.mem_append_left _ z))⟩
theorem dgs_cons {t : TF} {ts : List TF} {es : List Expr} {ks ls : List Nat} (h1 : DG X T a t ks) (h2 : DGs X T es ts ls) (hs : (assignEach (a :: es) X.env).map (·.2) = assign a X.env :: (assignEach es X.env).map (·.2) := by rfl) : DGs X T (a :: es) (t :: ts) (ks ++ ls) := by
  refine ⟨pgs_imp (pgs_cons h1 h2.pgs hs) fun v σ H Q ⟨ρ, α, μ, ds, ρ1, S, sl, r, e, q⟩ => ?_, congrArg (· + 1) h2.len⟩
  cases r with
  | nil => cases e
  | @cons v' vs' d ds r rr =>
    unfold tTups at e
    cases e1 : t d ρ with
    | none => rw [e1] at e; cases e
    | some ρ2 =>
      rw [e1] at e
      exact ⟨_, _, rfl, ρ, α, μ, d, ρ2, S, sl, r, e1, fun σ1 o1 sl1 => ⟨ρ2, α, μ, ds, ρ1, S, sl1, rr, e, fun σ2 o2 sl2 => q σ2 (o1.trans o2) sl2⟩⟩
theorem tTups_len : ∀ {ts : List TF} {ds : List PyData} {ρ ρ1 : Mi.Env}, tTups ts ds ρ = some ρ1 → ts.length = ds.length
  | [], [], _, _, _ => rfl
  | [], _ :: _, _, _, e => by cases e
  | _ :: _, [], _, _, e => by cases e
  | t :: ts, d :: ds, ρ, ρ1, e => by
    unfold tTups at e
    cases e1 : t d ρ with
    | none => rw [e1] at e; cases e
    | some ρ2 => rw [e1] at e; exact congrArg (· + 1) (tTups_len e)
theorem dg_tup {ts : List TF} {es : List Expr} {k : Nat} {ks : List Nat} (hc : X.calm = true) (h : DGs X T es ts ks) (hn : (assignEach es X.env).length = es.length := by rfl) (hst : (assignEach es X.env).findIdx? (·.1) = none := by rfl) : DG X T (.Tuple es k pos) (Mi.tTup ts) ks :=
  pg_imp (pg_tup hc h.pgs hn hst) fun v σ H Q ⟨ρ, α, μ, d, ρ1, S, sl, r, e, q⟩ => by
    unfold Mi.tTup at e
    split at e
    · rename_i ds
      obtain ⟨p1, ys, rfl, h1, r1⟩ := RpT.tuple (.inl r)
      exact ⟨p1, ys, rfl, h1, by rw [r1.length, h.len, tTups_len e], ρ, α, μ, ds, ρ1, S, sl, r1, e, q⟩
    · cases e
theorem dg_unl {ts : List TF} {es : List Expr} {k : Nat} {ks : List Nat} (hc : X.calm = true) (h : DGs X T es ts ks) (hn : (assignEach es X.env).length = es.length := by rfl) (hst : (assignEach es X.env).findIdx? (·.1) = none := by rfl) : DG X T (.Tuple es k pos) (Mi.tUnl ts) ks :=
  pg_imp (pg_unl hc h.pgs hn hst) fun v σ H Q ⟨ρ, α, μ, d, ρ1, S, sl, r, e, q⟩ => by
    unfold Mi.tUnl at e
    split at e
    · rename_i ds
      obtain ⟨p1, ys, rfl, h1, r1⟩ := RpT.list (.inl r)
      exact ⟨p1, ys, rfl, .inl h1, by rw [r1.length, h.len, tTups_len e], ρ, α, μ, ds, ρ1, S, sl, r1, e, q⟩
    · cases e
theorem ds_tgt {tg : Expr} {t : TF} {ks : List Nat} (ha : DE X T E a f) (hg : DG X T tg t ks) (hs : swapsWithSole [tg] a pos.line X.env = pure false := by rfl) (hw : swappedStores [tg] a X.env = pure none := by rfl)
    (h1 : (assignEach [tg] X.env).map (·.2) = [assign tg X.env] := by rfl) : DS X T E (.Assign [tg] a pos) (sTgt t f) :=
  ps_imp (ps_asg ha hg hs hw h1) fun D σ H ⟨ρ, α, μ, S, sl, q⟩ => tD_bindS S sl q fun v w H1 α1 μ1 st S1 sl1 r q1 => by
    cases w with
    | d d =>
      dsimp only at q1
      split at q1
      · rename_i ρ1 e
        exact ⟨ρ, α1, μ1, d, ρ1, S1, sl1, r, e, fun σ1 _ sl2 => QS.nx S1 sl2 q1⟩
      · exact (show False from q1).elim
    | m k => exact (show False from q1).elim
    | f k => exact (show False from q1).elim
    | x k => exact (show False from q1).elim
    | e _ _ => exact (show False from q1).elim
    | es _ => exact (show False from q1).elim
/-! ### lists that change -/
theorem de_app {p' : Pos} (ha : DE X T E a f) (hb : DE X T E b g) (hbase : attributeBase a "append" X.env (eval a X.env) = eval a X.env := by rfl)
    (hfew : ((backTo pos (starEach [b] X.env)).all (fun x => !x.1) && (backToKw pos (keywordEach [] X.env)).all (fun x => x.1.isSome) && decide ([b].length + ([] : List Keyword).length + (if ([] : List Keyword).isEmpty then 0 else 1) < 30)) = true := by rfl)
    (hline : (p'.endLine == pos.line) = true := by rfl) (hs : starEach [b] X.env = (false, eval b X.env) :: starEach [] X.env := by rfl) (hpl : (backTo pos (starEach [] X.env)).any (·.1) = false := by rfl) :
    DE X T E (.Call (.Attribute a "append" p') [b] [] pos) (eApp f g) :=
  pe_imp (pe_bm PySem.F.plainAttrs_list PySem.F.slot_list_append PySem.F.type_list_append mt_append ha (pa_cons hb pa_nil hs) hbase hfew hline hs hpl) fun σ H Q ⟨ρ, α, μ, S, sl, q⟩ =>
    tD_bind S sl q fun v w H1 α1 μ1 st S1 sl1 r q1 => by
      cases w with
      | d d => exact (show False from q1).elim
      | f k => exact (show False from q1).elim
      | x k => exact (show False from q1).elim
      | e _ _ => exact (show False from q1).elim
      | es _ => exact (show False from q1).elim
      | m k =>
        dsimp only at q1
        split at q1
        · rename_i l0 e0
          obtain ⟨p1, hp, rfl⟩ := r
          obtain ⟨p1', hp', xs0, hx0, _⟩ := S1.cell k _ (mlist_at e0)
          rw [hp] at hp'; cases hp'
          refine ⟨.inl ⟨rfl, xs0, .inl (.inl hx0)⟩, ?_⟩
          refine tD_bind S1 sl1 q1 fun v2 w2 H2 α2 μ2 st2 S2 sl2 r2 q2 => ?_
          split at q2
          · rename_i d l e1
            split at q2
            · rename_i hl
              have hp2 := st2.pre _ _ hp
              obtain ⟨p2, hp', xs, hx, rx⟩ := S2.cell k _ (mlist_at e1)
              rw [hp2] at hp'; cases hp'
              obtain ⟨st3, S3⟩ := own_write S2 (mlist_at e1) hp2 (rx.append (.cons r2 .nil))
              exact ⟨p1, xs, v2, rfl, rfl, hx, by rw [rx.length]; exact Nat.lt_of_lt_of_le hl (by decide), q2 .non _ α2 st3 S3 .non⟩
            · exact (show False from q2).elim
          · exact (show False from q2).elim
        · exact (show False from q1).elim
/-- o[i] = e -/
theorem ds_sub {p' : Pos} (hv : DE X T E c h) (ho : DE X T E a f) (hi : DE X T E b g) (hs : swapsWithSole [.Subscript a b p'] c pos.line X.env = pure false := by rfl) (hw : swappedStores [.Subscript a b p'] c X.env = pure none := by rfl)
    (h1 : (assignEach [.Subscript a b p'] X.env).map (·.2) = [assign (.Subscript a b p') X.env] := by rfl)
    (ha : ∀ v, assign (.Subscript a b p') X.env v = (do
      let ov ← holding [v] (eval a X.env)
      let iv ← holding [v, ov] (eval b X.env)
      standAt p'
      holding [v, ov, iv] (setItem ov iv v)
      release [v, ov, iv] []) := by intro _; rfl) : DS X T E (.Assign [.Subscript a b p'] c pos) (sSub f g h) :=
  ps_imp (ps_asg hv (pg_sub ho hi set_list ha) hs hw h1) fun D σ H ⟨ρ, α, μ, S, sl, q⟩ => tD_bindS S sl q fun v w H1 α1 μ1 st1 S1 sl1 r1 q1 =>
    tD_bindS S1 sl1 q1 fun v2 w2 H2 α2 μ2 st2 S2 sl2 r2 q2 => tD_bindS S2 sl2 q2 fun v3 w3 H3 α3 μ3 st3 S3 sl3 r3 q3 => by
      split at q3
      · rename_i d k n
        split at q3
        · rename_i l e1
          split at q3
          · rename_i p e2
            obtain ⟨p1, hp, rfl⟩ := r2
            have hp3 := st3.pre _ _ hp
            obtain ⟨p2, hp', xs, hx, rx⟩ := S3.cell k _ (mlist_at e1)
            rw [hp3] at hp'; cases hp'
            have hn : v3 = .int n := RpT.int (.inl r3)
            subst hn
            obtain ⟨st4, S4⟩ := own_write S3 (mlist_at e1) hp3 (rx.set ((r1.step st2).step st3) p)
            refine ⟨p1, xs, n, p, rfl, rfl, hx, ?_, q3 σ _ α3 st4 S4 (sl3.step st4)⟩
            rw [rx.length]
            exact e2
          · exact (show False from q3).elim
        · exact (show False from q3).elim
      · exact (show False from q3).elim
end
end L3

set_option Elab.async false
set_option linter.all false
set_option maxRecDepth 100000
/-! What is walked; for, while, comprehensions. -/
namespace L3
open PySem PySem.Spec PyProof.Rows L2 Mi

/-- the iterator hands out these things, whatever comes -/
def Yields (C : Cv) (J : It) (l : List PyData) (H : Hp) (M : Addr → Prop) : Prop := ∀ i H2 M2, Ext H M H2 M2 → (∀ a, H2 a = none → ¬ M2 a) →
  (∀ d, l[i]? = some d → J.go i H2 ∧ ∀ x H', J.yld i H2 x H' → Same H2 H' ∧ Rp C.K H' M2 x d) ∧ (l.length ≤ i → J.stop i H2)
def tI (C : Cv) (E : XK) (it : IF) : TI := fun σ H R => ∃ ρ α μ, Stor C H α μ ∧ Sl C H α μ σ ρ ∧ (match it ρ μ with
  | .ok l μ1 => ∀ J H1 α1, Step H α μ H1 α1 μ1 → Stor C H1 α1 μ1 → l.length ≤ sizeLine → Yields C J l H1 (Own α1 μ1) → R J H1
  | .er x μ1 => ∀ cls d H1 α1, Step H α μ H1 α1 μ1 → Stor C H1 α1 μ1 → RpX C H1 cls d x → E cls d H1
  | .no => False)
def DI (X : Cx) (T : List (Addr × Str)) (E : XK) (tg e : Expr) (it : IF) : Prop := PI X tg e (tI (CvX X T) E it)
theorem pi_imp {X : Cx} {tg e : Expr} {t t' : TI} (h : PI X tg e t) (i : ∀ σ H Q, t' σ H Q → t σ H Q) : PI X tg e t' := ⟨fun pins s σ H Q I q => h.run pins s σ H Q I (i _ _ _ q)⟩
theorem pi_impI {X : Cx} {tg e : Expr} {t t' : TI} (h : PI X tg e t) (i : ∀ pins s σ H Q, Inv X pins σ H s → t' σ H Q → t σ H Q) : PI X tg e t' := ⟨fun pins s σ H Q I q => h.run pins s σ H Q I (i _ _ _ _ _ I q)⟩
section
variable {C : Cv} {E : XK} {H : Hp} {α : Al} {μ : Sto} {σ : L2.St} {ρ : Mi.Env} {f g : EF}
theorem tD_bindI {Q' : VK} {k : W → Sto → R (List PyData)} {R' : It → Hp → Prop} (S : Stor C H α μ) (sl : Sl C H α μ σ ρ) (h : match (f ρ μ).bind k with
    | .ok l μ1 => ∀ J H1 α1, Step H α μ H1 α1 μ1 → Stor C H1 α1 μ1 → l.length ≤ sizeLine → Yields C J l H1 (Own α1 μ1) → R' J H1
    | .er x μ1 => ∀ cls d H1 α1, Step H α μ H1 α1 μ1 → Stor C H1 α1 μ1 → RpX C H1 cls d x → E cls d H1
    | .no => False)
    (cont : ∀ v w H1 α1 μ1, Step H α μ H1 α1 μ1 → Stor C H1 α1 μ1 → Sl C H1 α1 μ1 σ ρ → RpW C H1 α1 μ1 v w → (match k w μ1 with
    | .ok l μ2 => ∀ J H2 α2, Step H1 α1 μ1 H2 α2 μ2 → Stor C H2 α2 μ2 → l.length ≤ sizeLine → Yields C J l H2 (Own α2 μ2) → R' J H2
    | .er x μ2 => ∀ cls d H2 α2, Step H1 α1 μ1 H2 α2 μ2 → Stor C H2 α2 μ2 → RpX C H2 cls d x → E cls d H2
    | .no => False) → Q' v H1) : tD C E f σ H Q' := by
  refine ⟨ρ, α, μ, S, sl, ?_⟩
  cases e : f ρ μ with
  | ok w μ1 =>
    rw [e, Mi.R.bind_ok] at h
    intro v H1 α1 st S1 r
    refine cont v w H1 α1 μ1 st S1 (sl.step st) r ?_
    cases e2 : k w μ1 with
    | ok l μ2 => rw [e2] at h; exact fun J H2 α2 s S2 z y => h J H2 α2 (st.trans s) S2 z y
    | er x μ2 => rw [e2] at h; exact fun cls d H2 α2 s S2 z => h cls d H2 α2 (st.trans s) S2 z
    | no => rw [e2] at h; exact h
  | er x μ1 => rw [e] at h; exact h
  | no => rw [e] at h; exact h.elim
theorem yields_list {M : Addr → Prop} {a : Addr} {xs : List V} {ds : List PyData} (hx : Rd H a (.lst xs)) (n : ¬ M a) (r : RpAll C.K H M xs ds) : Yields C (Itl C.K a) ds H M := by
  intro i H2 M2 st _
  have h2 : SqL C.K H2 a xs := .inl (st.rd hx n).1
  have r2 := r.ext st
  refine ⟨fun d e => ?_, fun h => ⟨xs, h2, by rw [r2.length]; exact h⟩⟩
  obtain ⟨v, h3, h4⟩ := r2.get e
  refine ⟨⟨xs, v, h2, h3⟩, fun x H' y => ?_⟩
  obtain ⟨e', y⟩ := y
  subst e'
  have e2 := y xs h2
  rw [h3] at e2; cases e2
  exact ⟨.refl _, h4⟩
theorem yields_tup {M : Addr → Prop} {a : Addr} {xs : List V} {ds : List PyData} (hx : SqT C.K H a xs) (r : RpAll C.K H M xs ds) : Yields C (Itt C.K a) ds H M := by
  intro i H2 M2 st _
  have h2 : SqT C.K H2 a xs := st.sqT hx
  have r2 := r.ext st
  refine ⟨fun d e => ?_, fun h => ⟨xs, h2, by rw [r2.length]; exact h⟩⟩
  obtain ⟨v, h3, h4⟩ := r2.get e
  refine ⟨⟨xs, v, h2, h3⟩, fun x H' y => ?_⟩
  obtain ⟨e', y⟩ := y
  subst e'
  have e2 := y xs h2
  rw [h3] at e2; cases e2
  exact ⟨.refl _, h4⟩
theorem yields_str {M : Addr → Prop} (x : Str) : Yields C (Its x) (charsOf x) H M := by
  intro i H2 M2 st _
  refine ⟨fun d e => ?_, fun h => by rw [charsOf, List.length_map, Array.length_toList] at h; exact h⟩
  unfold charsOf at e
  rw [List.getElem?_map] at e
  cases e1 : x.cps.toList[i]? with
  | none => rw [e1] at e; cases e
  | some c =>
    rw [e1] at e
    cases e
    have hi : i < x.cps.size := by
      have := (List.getElem?_eq_some_iff.mp e1).1
      rwa [Array.length_toList] at this
    refine ⟨hi, fun v H' yy => ?_⟩
    obtain ⟨rfl, c', h1, rfl⟩ := yy
    rw [Array.getElem?_toList, h1] at e1
    cases e1
    exact ⟨.refl _, .str _⟩
theorem rangeD_get (a b : Int) {i : Nat} {d : PyData} (h : (rangeD a b)[i]? = some d) : i < (b - a).toNat ∧ d = .int (a + i) := by
  unfold rangeD at h
  rw [List.getElem?_map] at h
  cases e : (List.range (b - a).toNat)[i]? with
  | none => rw [e] at h; cases h
  | some k =>
    rw [e] at h
    cases h
    obtain ⟨h1, h2⟩ := List.getElem?_eq_some_iff.mp e
    rw [List.getElem_range] at h2
    subst h2
    exact ⟨by simpa using h1, rfl⟩
theorem rangeD_len (a b : Int) : (rangeD a b).length = (b - a).toNat := by simp [rangeD]
theorem yields_range {M : Addr → Prop} (a b : Int) : Yields C (Itr a (b - a).toNat) (rangeD a b) H M := by
  intro i H2 M2 st _
  refine ⟨fun d e => ?_, fun h => by rw [rangeD_len] at h; exact h⟩
  obtain ⟨h1, rfl⟩ := rangeD_get a b e
  refine ⟨h1, fun x H' y => ?_⟩
  obtain ⟨e', y⟩ := y
  subst e' y
  exact ⟨.refl _, .int _⟩
end
section
variable {X : Cx} {T : List (Addr × Str)} {E : XK} {j : Nat} {pos : Pos} {tg a b c : Expr} {f g h : EF} {st : Stmt} {rest body : List Stmt} {F G : SF}
theorem list_line {pins : List (Addr × Obj)} {s : Shared} {σ : L2.St} {H : Hp} {p : Addr} {xs : List V} (I : Inv X pins σ H s) (h : SqL X.K H p xs) : xs.length ≤ sizeLine := let ⟨_, _, _, z⟩ := I.list h; z
theorem tup_line {pins : List (Addr × Obj)} {s : Shared} {σ : L2.St} {H : Hp} {p : Addr} {xs : List V} (I : Inv X pins σ H s) (h : SqT X.K H p xs) : xs.length ≤ sizeLine := let ⟨_, _, _, z⟩ := I.tuple h; z
/-- behind an expression the state is one of ours -/
theorem pe_inv {e : Expr} {t : TE} (h : PE X e t) : PE X e (fun σ H Q => t σ H fun v H1 => (∀ pins s, Inv X pins σ H1 s → Q v H1)) :=
  ⟨fun pins s σ H Q I q => thn (h.run pins s σ H _ I q) fun u s' ⟨v, H', I', r, q'⟩ => ⟨v, H', I', r, q' pins s' I'⟩⟩
/-- a list or a tuple, as the data shows -/
theorem di_seq (ha : DE X T E a f) : DI X T E tg a (iSeq f) := by
  refine ⟨fun pins s σ H R' I ⟨ρ, α, μ, S, sl, q⟩ => ?_⟩
  unfold iSeq at q
  cases e : f ρ μ with
  | no => rw [e] at q; exact q.elim
  | er x μ1 =>
    refine (pi_list ha).run pins s σ H R' I ⟨ρ, α, μ, S, sl, ?_⟩
    rw [e] at q ⊢
    exact q
  | ok w μ1 =>
    rw [e, Mi.R.bind_ok] at q
    cases w with
    | m k => exact q.elim
    | f k => exact q.elim
    | x k => exact q.elim
    | e _ _ => exact q.elim
    | es _ => exact q.elim
    | d d =>
      cases d with
      | list l =>
        refine (pi_list (pe_inv ha)).run pins s σ H R' I ⟨ρ, α, μ, S, sl, ?_⟩
        rw [e]
        intro v H1 α1 st S1 r pins2 s2 I2
        cases r with
        | lst hx n rr => exact ⟨_, rfl, ⟨_, .inl hx⟩, q _ H1 α1 st S1 (by rw [← rr.length]; exact list_line I2 (.inl hx)) (yields_list hx n rr)⟩
      | tuple l =>
        refine (pi_tup (pe_inv ha)).run pins s σ H R' I ⟨ρ, α, μ, S, sl, ?_⟩
        rw [e]
        intro v H1 α1 st S1 r pins2 s2 I2
        cases r with
        | tup hx rr => exact ⟨_, rfl, ⟨_, hx⟩, q _ H1 α1 st S1 (by rw [← rr.length]; exact tup_line I2 hx) (yields_tup hx rr)⟩
      | none => exact q.elim
      | bool b => exact q.elim
      | int b => exact q.elim
      | str b =>
        refine (pi_str ha).run pins s σ H R' I ⟨ρ, α, μ, S, sl, ?_⟩
        rw [e]
        intro v H1 α1 st S1 r
        cases r
        have q : (match (Mi.ofO (items (.str b)) μ1 : R (List PyData)) with
          | .ok l μ1 => ∀ J H1 α1, Step H α μ H1 α1 μ1 → Stor (CvX X T) H1 α1 μ1 → l.length ≤ sizeLine → Yields (CvX X T) J l H1 (Own α1 μ1) → R' J H1
          | .er x μ1 => ∀ cls d H1 α1, Step H α μ H1 α1 μ1 → Stor (CvX X T) H1 α1 μ1 → RpX (CvX X T) H1 cls d x → E cls d H1
          | .no => False) := q
        by_cases hl : b.length ≤ LIM
        · rw [show items (.str b) = some (charsOf b) from if_pos hl] at q
          exact ⟨b, rfl, q _ H1 α1 st S1 (by rw [charsOf, List.length_map, Array.length_toList]; exact lim_line hl) (yields_str b)⟩
        · rw [show items (.str b) = none from if_neg hl] at q
          exact q.elim
      | dict b => exact q.elim
theorem di_range1 {p : Pos} (ha : DE X T E a f) (hm : X.mg "range" = none) (hg : Gl X "range" := by rfl) (hs : starEach [a] X.env = [(false, eval a X.env)] := by rfl) : DI X T E tg (.Call (.Name "range" p) [a] [] pos) (iRange1 f) :=
  pi_imp (pi_range1 hg hm (pa_cons ha pa_nil hs) hs) fun σ H R ⟨ρ, α, μ, S, sl, q⟩ => tD_bindI S sl q fun v w H1 α1 μ1 st S1 sl1 r q1 => by
    split at q1
    · rename_i l μ2 e
      split at e
      · rename_i b
        split at e
        · rename_i hb
          cases e
          have hv : v = .int b := RpT.int (.inl r)
          subst hv
          have hL : (LIM : Int) = 1000000 := rfl
          refine ⟨b, rfl, by omega, by omega, ?_⟩
          have y := yields_range (C := CvX X T) (H := H1) (M := Own α1 μ1) 0 b
          have z := q1 _ H1 α1 (.refl _ _ _) S1 (by rw [rangeD_len]; exact Nat.le_trans (show (b - 0).toNat ≤ LIM by unfold LIM; omega) (by decide)) y
          have e0 : (b - 0).toNat = b.toNat := by rw [Int.sub_zero]
          rw [e0] at z
          exact z
        · cases e
      · cases e
    · rename_i x μ2 e
      split at e
      · split at e <;> cases e
      · cases e
    · exact q1.elim
theorem di_range2 {p : Pos} (ha : DE X T E a f) (hb : DE X T E b g) (hm : X.mg "range" = none) (hg : Gl X "range" := by rfl) (hs : starEach [a, b] X.env = [(false, eval a X.env), (false, eval b X.env)] := by rfl) (hs2 : starEach [b] X.env = [(false, eval b X.env)] := by rfl) : DI X T E tg (.Call (.Name "range" p) [a, b] [] pos) (iRange2 f g) :=
  pi_imp (pi_range2 hg hm (pa_cons ha (pa_cons hb pa_nil hs2) (by rw [hs, hs2])) hs hs2) fun σ H R ⟨ρ, α, μ, S, sl, q⟩ => tD_bindI S sl q fun v w H1 α1 μ1 st S1 sl1 r q1 => tD_bindI S1 sl1 q1 fun v2 w2 H2 α2 μ2 st2 S2 sl2 r2 q2 => by
    split at q2
    · rename_i l μ3 e
      split at e
      · rename_i i k
        split at e
        · rename_i hb
          cases e
          have hv : v = .int i := RpT.int (.inl r)
          have hv2 : v2 = .int k := RpT.int (.inl r2)
          subst hv hv2
          have hL : (LIM : Int) = 1000000 := rfl
          refine ⟨i, k, rfl, by omega, ?_⟩
          exact q2 _ H2 α2 (.refl _ _ _) S2 (by rw [rangeD_len]; exact Nat.le_trans (show (k - i).toNat ≤ 2 * LIM by unfold LIM; omega) (by decide)) (yields_range (C := CvX X T) i k)
        · cases e
      · cases e
    · rename_i x μ3 e
      split at e
      · split at e <;> cases e
      · cases e
    · exact q2.elim
/-! ### for -/
theorem ds_for {t : TF} {it : IF} {ks : List Nat} (ck : CK X E j) (hp : PassesOwn (model X.prog X.w) X.A X.env X.xe) (hi : DI X T E tg a it) (hg : DG X T tg t ks) (hb : DSs X T E body F) (hs : ∀ x, foldedSetIterable a X.env x = pure x := by intro _; rfl) :
    DS X T E (.For tg a body [] pos) (sFor t it F) :=
  ps_imp (ps_for hp ck.calm hi hg hb hs) fun D σ H ⟨ρ, α, μ, S, sl, q⟩ => by
    refine ⟨ρ, α, μ, S, sl, ?_⟩
    unfold sFor at q
    cases e : it ρ μ with
    | no => rw [e] at q; exact q
    | er x μ1 => rw [e] at q; exact q
    | ok l μ1 =>
      rw [e, R.bindS_ok] at q
      intro J H1 α1 st1 S1 hl y
      refine ⟨fun i m σ2 H2 => m = l.length - i ∧ i ≤ l.length ∧ ∃ ρ2 α2 μ2, Step H1 α1 μ1 H2 α2 μ2 ∧ Stor (CvX X T) H2 α2 μ2 ∧ Sl (CvX X T) H2 α2 μ2 σ2 ρ2 ∧ QS (CvX X T) E D H2 α2 μ2 (forL t F (l.drop i) ρ2 μ2),
        ⟨l.length, rfl, Nat.zero_le _, ρ, α1, μ1, .refl _ _ _, S1, sl.step st1, QS.step q st1⟩, ?_⟩
      rintro i m σ2 H2 ⟨rfl, hi, ρ2, α2, μ2, st2, S2, sl2, q2⟩
      obtain ⟨yg, ys⟩ := y i H2 (Own α2 μ2) st2.ext fun _ h => S2.own_ne h
      by_cases hlt : i < l.length
      · obtain ⟨d, hd⟩ : ∃ d, l[i]? = some d := ⟨l[i], List.getElem?_eq_getElem hlt⟩
        have ed : l.drop i = d :: l.drop (i + 1) := by
          rw [List.drop_eq_getElem_cons hlt]
          congr 1
          rw [List.getElem?_eq_getElem hlt] at hd
          exact Option.some.inj hd
        rw [ed] at q2
        obtain ⟨go, yl⟩ := yg d hd
        refine .inr ⟨go, fun σ' H' => l.length - (i + 1) = l.length - (i + 1) ∧ i + 1 ≤ l.length ∧ ∃ ρ2 α2 μ2, Step H1 α1 μ1 H' α2 μ2 ∧ Stor (CvX X T) H' α2 μ2 ∧ Sl (CvX X T) H' α2 μ2 σ' ρ2 ∧ QS (CvX X T) E D H' α2 μ2 (forL t F (l.drop (i + 1)) ρ2 μ2),
          fun σ' H' n => ⟨_, by omega, n⟩, fun x H' yy => ?_⟩
        obtain ⟨sm3, r3⟩ := yl x H' yy
        have st3 := Same.step S2 sm3
        have S3 := S2.same sm3
        have q3 := QS.step q2 st3
        unfold forL at q3
        cases et : t d ρ2 with
        | none => rw [et] at q3; exact q3.elim
        | some ρ3 =>
          rw [et] at q3
          refine ⟨ρ2, α2, μ2, d, ρ3, S3, sl2.step st3, r3, et, fun σ3 _ sl3 => ⟨ρ3, α2, μ2, S3, sl3, ?_⟩⟩
          dsimp only at q3
          cases eb : F ρ3 μ2 with
          | nx ρ4 μ4 =>
            rw [eb] at q3
            exact fun σ' H5 α5 s S5 sl5 => ⟨rfl, hlt, ρ4, α5, μ4, (st2.trans st3).trans s, S5, sl5, QS.step (r := forL t F (l.drop (i + 1)) ρ4 μ4) q3 s⟩
          | ct ρ4 μ4 =>
            rw [eb] at q3
            exact fun σ' H5 α5 s S5 sl5 => ⟨rfl, hlt, ρ4, α5, μ4, (st2.trans st3).trans s, S5, sl5, QS.step (r := forL t F (l.drop (i + 1)) ρ4 μ4) q3 s⟩
          | bk ρ4 μ4 => rw [eb] at q3; exact q3
          | rt w μ4 => rw [eb] at q3; exact q3
          | er x μ4 => rw [eb] at q3; exact q3
          | no => rw [eb] at q3; exact q3
      · have e0 : l.drop i = [] := List.drop_eq_nil_of_le (by omega)
        rw [e0] at q2
        exact .inl ⟨ys (by omega), QS.nx S2 sl2 q2⟩
/-! ### while -/
theorem ds_while {n : Nat} (hp : PassesOwn (model X.prog X.w) X.A X.env X.xe) (hc : DT X T E c f) (hb : DSs X T E body F) : DS X T E (.While c body [] pos) (sWhile n f F) :=
  ps_imp (ps_while hp hc hb) fun D σ H ⟨ρ, α, μ, S, sl, q⟩ => by
    refine ⟨fun m σ2 H2 => ∃ ρ2 α2 μ2, Stor (CvX X T) H2 α2 μ2 ∧ Sl (CvX X T) H2 α2 μ2 σ2 ρ2 ∧ QS (CvX X T) E D H2 α2 μ2 (whileN f F m ρ2 μ2), ⟨n, ρ, α, μ, S, sl, q⟩, ?_⟩
    rintro m σ2 H2 ⟨ρ2, α2, μ2, S2, sl2, q2⟩
    cases m with
    | zero => exact q2.elim
    | succ m =>
      refine tD_testS S2 sl2 q2 fun b H3 α3 μ3 st3 S3 sl3 q3 => ⟨b, rfl, ?_⟩
      cases b with
      | false => rw [if_neg Bool.false_ne_true] at q3 ⊢; exact QS.nx S3 sl3 q3
      | true =>
        rw [if_pos rfl] at q3 ⊢
        refine ⟨fun σ' H' => ∃ ρ2 α2 μ2, Stor (CvX X T) H' α2 μ2 ∧ Sl (CvX X T) H' α2 μ2 σ' ρ2 ∧ QS (CvX X T) E D H' α2 μ2 (whileN f F m ρ2 μ2), fun σ' H' z => ⟨m, Nat.lt_succ_self m, z⟩, ρ2, α3, μ3, S3, sl3, ?_⟩
        cases eb : F ρ2 μ3 with
        | nx ρ4 μ4 => rw [eb] at q3; exact fun σ' H5 α5 s S5 sl5 => ⟨ρ4, α5, μ4, S5, sl5, QS.step (r := whileN f F m ρ4 μ4) q3 s⟩
        | ct ρ4 μ4 => rw [eb] at q3; exact fun σ' H5 α5 s S5 sl5 => ⟨ρ4, α5, μ4, S5, sl5, QS.step (r := whileN f F m ρ4 μ4) q3 s⟩
        | bk ρ4 μ4 => rw [eb] at q3; exact q3
        | rt w μ4 => rw [eb] at q3; exact q3
        | er x μ4 => rw [eb] at q3; exact q3
        | no => rw [eb] at q3; exact q3
/-! ### comprehensions -/
theorem CK.blk (ck : CK X E j) (s : Shared) (H : Hp) (scope : Scope) (cenv : PySem.Env) (fp : List Addr) : CK (X.blk s H scope cenv fp) E0 j where
  calm := ck.calm
  nd := ck.nd
  room := ck.room
  takes := fun _ _ x => by
    obtain ⟨_, _, _, _, _, _, _, _, _, _, _, _, _, _, _, _, z⟩ := x
    exact z.elim
structure DC (X : Cx) (T : List (Addr × Str)) (ifs : List Expr) (f : EF) : Prop where
  pts : PTs X ifs (fun σ H Q => tD (CvX X T) E0 f σ H fun v H1 => ∃ b, v = .bl b ∧ Q b H1)
theorem pts_imp {ifs : List Expr} {t t' : TT} (h : PTs X ifs t) (i : ∀ σ H Q, t' σ H Q → t σ H Q) : PTs X ifs t' := ⟨fun pins s σ H Q I q => h.run pins s σ H Q I (i _ _ _ q)⟩
theorem dc_nil : DC X T [] eYes := ⟨pts_imp pts_nil fun σ H Q ⟨ρ, α, μ, S, sl, q⟩ => by
  obtain ⟨b, e, q⟩ := PQ.bl S q
  cases e
  exact q⟩
theorem dc_one (h : DT X T E0 c f) : DC X T [c] f := ⟨pts_one h⟩
end
section
variable {C : Cv} {H : Hp} {α : Al} {μ : Sto}
/-- a new list that nobody knows of yet -/
def Al.hide (α : Al) (p : Addr) : Al := ⟨α.own, p :: α.hid⟩
theorem own_hide {p a : Addr} : Own (α.hide p) μ a ↔ Own α μ a ∨ a = p := by
  constructor
  · rintro (h | h)
    · exact .inl (.inl h)
    · rcases List.mem_cons.mp h with h | h
      · exact .inr h
      · exact .inl (.inr h)
  · rintro ((h | h) | rfl)
    · exact .inl h
    · exact .inr (List.mem_cons_of_mem _ h)
    · exact .inr List.mem_cons_self
theorem ext_hide (S : Stor C H α μ) {p : Addr} {o : HO} (np : H p = none) : Ext H (Own α μ) (upd H p o) (Own (α.hide p) μ) := by
  refine ⟨fun b u h n _ => ⟨same_upd np b u h, fun z => ?_⟩, fun b xs h => same_upd np b _ h, fun b o u h => same_upd np b _ h⟩
  rcases own_hide.mp z with z | z
  · exact n z
  · rw [z, np] at h; cases h
theorem CellOk.ext {H' : Hp} {α' : Al} {μ' : Sto} {a : Addr} {c : Cell} (h : CellOk C H α μ a c) (e : Ext H (Own α μ) H' (Own α' μ')) (ha : H' a = H a) : CellOk C H' α' μ' a c := by
  cases c with
  | lst l => obtain ⟨ys, e1, e2⟩ := h; exact ⟨ys, ha.trans e1, e2.ext e⟩
  | ins c fs => obtain ⟨A, dx, gs, e1, e2, e3, e4⟩ := h; exact ⟨A, dx, gs, e1, ha.trans e2, e3, e4.ext e⟩
theorem stor_hide (S : Stor C H α μ) {p : Addr} {xs : List V} (np : H p = none) : Stor C (upd H p (.lst xs)) (α.hide p) μ := by
  have fresh : ∀ a ∈ α.own ++ α.hid, a ≠ p := fun a ha e => by
    obtain ⟨o, q, _⟩ := S.there a ha
    rw [e, np] at q; cases q
  refine ⟨S.len, ?_, fun a h => ?_, fun k c h => ?_, S.tabs.ext (same_upd np)⟩
  · show (α.own ++ p :: α.hid).Nodup
    rw [List.Perm.nodup_iff List.perm_middle]
    exact List.nodup_cons.mpr ⟨fun z => fresh p z rfl, S.nd⟩
  · have h : a ∈ α.own ++ p :: α.hid := h
    by_cases e : a = p
    · subst e
      exact ⟨_, upd_same, fun _ z => by cases z⟩
    · have hm : a ∈ α.own ++ α.hid := by
        rcases List.mem_append.mp h with h | h
        · exact List.mem_append_left _ h
        · rcases List.mem_cons.mp h with h | h
          · exact absurd h e
          · exact List.mem_append_right _ h
      obtain ⟨o, q, n⟩ := S.there a hm
      exact ⟨o, same_upd np _ _ q, n⟩
  · obtain ⟨a, h1, h2⟩ := S.cell k c h
    refine ⟨a, h1, h2.ext (ext_hide S np) ?_⟩
    rw [upd_ne (fresh a (List.mem_append_left _ (List.mem_of_getElem? h1)))]
/-- the hidden list is written -/
theorem stor_write {p : Addr} {xs ys : List V} (S : Stor C H α μ) (hm : p ∈ α.hid) (hp : H p = some (.lst xs)) : Ext H (Own α μ) (upd H p (.lst ys)) (Own α μ) ∧ Stor C (upd H p (.lst ys)) α μ := by
  have op : Own α μ p := .inr hm
  have e : Ext H (Own α μ) (upd H p (.lst ys)) (Own α μ) := by
    refine ⟨fun b o h n _ => ⟨?_, n⟩, fun b zs h => ?_, fun b o u h => ?_⟩
    · rw [upd_ne (fun e => n (by rw [e]; exact op))]; exact h
    · rw [upd_ne (fun e => by rw [e, hp] at h; cases h)]; exact h
    · rw [upd_ne (fun e => by rw [e, hp] at h; cases h)]; exact h
  refine ⟨e, S.len, S.nd, fun a h => ?_, fun k c h => ?_, ?_⟩
  · by_cases z : a = p
    · rw [z]; exact ⟨_, upd_same, fun _ z => by cases z⟩
    · rw [upd_ne z]; exact S.there a h
  · obtain ⟨a, h1, h2⟩ := S.cell k c h
    refine ⟨a, h1, h2.ext e ?_⟩
    rw [upd_ne (fun z => S.nohid h1 (by rw [z]; exact hm))]
  · intro q hq
    obtain ⟨ps, h1, h2, h3⟩ := S.tabs q hq
    refine ⟨ps, by rw [upd_ne (fun e => by rw [e, hp] at h1; cases h1)]; exact h1, h2, fun pos cv hc => ?_⟩
    obtain ⟨c, e1, e2⟩ := h3 pos cv hc
    refine ⟨c, e1, ?_⟩
    rw [upd_ne (fun e => by rw [e, hp] at e2; cases e2)]
    exact e2
end
section
variable {X : Cx} {T : List (Addr × Str)} {E : XK} {j : Nat} {pos : Pos} {tg a b c : Expr} {f g h : EF}
theorem wipe_wipe (σ : L2.St) (vs : List Nat) : L2.wipe (L2.wipe σ vs) vs = L2.wipe σ vs := by
  refine List.ext_getElem? fun k => ?_
  rw [wipe_at, wipe_at]
  by_cases hk : k ∈ vs
  · rw [if_pos hk, if_pos hk, Option.map_map]
    rfl
  · rw [if_neg hk, if_neg hk]
theorem ext_unhide {P : Addr} {H' : Hp} {μ' : Sto} {α' : Al} : Ext H' (Own (α'.hide P) μ') H' (Own α' μ') :=
  ⟨fun b o h n _ => ⟨h, fun z => n (own_hide.mpr (.inl z))⟩, fun _ _ h => h, fun _ _ _ h => h⟩
theorem nodup_hide {C : Cv} {P : Addr} {H' : Hp} {μ' : Sto} {α' : Al} (S : Stor C H' (α'.hide P) μ') : P ∉ α'.own ++ α'.hid ∧ (α'.own ++ α'.hid).Nodup := by
  have h : (α'.own ++ P :: α'.hid).Nodup := S.nd
  rw [List.Perm.nodup_iff List.perm_middle] at h
  exact List.nodup_cons.mp h
theorem stor_unhide {C : Cv} {P : Addr} {H' : Hp} {μ' : Sto} {α' : Al} (S : Stor C H' (α'.hide P) μ') : Stor C H' α' μ' := by
  refine ⟨S.len, (nodup_hide S).2, fun a h => S.there a ?_, fun k c h => ?_, S.tabs⟩
  · show a ∈ α'.own ++ P :: α'.hid
    rcases List.mem_append.mp h with h | h
    · exact List.mem_append_left _ h
    · exact List.mem_append_right _ (List.mem_cons_of_mem _ h)
  · obtain ⟨a, h1, h2⟩ := S.cell k c h
    exact ⟨a, h1, h2.ext ext_unhide rfl⟩
theorem hide_of {P : Addr} {α α' : Al} (h : α'.hid = (α.hide P).hid) : α' = Al.hide ⟨α'.own, α.hid⟩ P := by
  obtain ⟨o, h'⟩ := α'
  have h : h' = P :: α.hid := h
  subst h
  rfl
/-- what holds at turn i of a comprehension: the new list at P holds acc -/
structure LcInv (C : Cv) (P : Addr) (H1 : Hp) (α1 : Al) (μ1 : Sto) (n : Nat) (accD : List PyData) (H2 : Hp) (α2 : Al) (μ2 : Sto) (acc : List V) : Prop where
  stor : Stor C H2 (α2.hide P) μ2
  ext : Ext H1 (Own α1 μ1) H2 (Own (α2.hide P) μ2)
  pre : ∀ (k : Nat) (a : Addr), α1.own[k]? = some a → α2.own[k]? = some a
  hid : α2.hid = α1.hid
  keep : ∀ b ∈ α1.hid, H2 b = H1 b
  list : H2 P = some (.lst acc)
  len : acc.length ≤ n
  rep : RpAll C.K H2 (Own (α2.hide P) μ2) acc accD
theorem LcInv.st {C : Cv} {P : Addr} {H1 H2 : Hp} {α1 α2 : Al} {μ1 μ2 : Sto} {n : Nat} {accD : List PyData} {acc : List V} (I : LcInv C P H1 α1 μ1 n accD H2 α2 μ2 acc) : Step H1 α1 μ1 H2 α2 μ2 :=
  ⟨I.ext.trans ext_unhide, I.pre, I.hid, I.keep⟩
/-- a step of the block -/
theorem LcInv.go {C : Cv} {P : Addr} {H1 H2 H3 : Hp} {α1 α2 α3 : Al} {μ1 μ2 μ3 : Sto} {n : Nat} {accD : List PyData} {acc : List V} (I : LcInv C P H1 α1 μ1 n accD H2 α2 μ2 acc) (s : Step H2 (α2.hide P) μ2 H3 α3 μ3) (S : Stor C H3 α3 μ3) :
    ∃ α4, α3 = α4.hide P ∧ LcInv C P H1 α1 μ1 n accD H3 α4 μ3 acc := by
  have e := hide_of (α := α2) s.hid
  refine ⟨_, e, by rw [← e]; exact S, by rw [← e]; exact I.ext.trans s.ext, fun k a h => s.pre k a (I.pre k a h), I.hid, fun b hb => ?_, ?_, I.len, by rw [← e]; exact I.rep.ext s.ext⟩
  · exact (s.keep b (List.mem_cons_of_mem _ (by rw [I.hid]; exact hb))).trans (I.keep b hb)
  · exact (s.keep P List.mem_cons_self).trans I.list
theorem LcInv.put {C : Cv} {P : Addr} {H1 H2 : Hp} {α1 α2 : Al} {μ1 μ2 : Sto} {n : Nat} {accD : List PyData} {acc : List V} {v : V} {d : PyData} (I : LcInv C P H1 α1 μ1 n accD H2 α2 μ2 acc) (np : H1 P = none) (S1 : Stor C H1 α1 μ1) (r : Rp C.K H2 (Own (α2.hide P) μ2) v d) :
    LcInv C P H1 α1 μ1 (n + 1) (accD ++ [d]) (upd H2 P (.lst (acc ++ [v]))) α2 μ2 (acc ++ [v]) := by
  obtain ⟨e, S⟩ := stor_write (ys := acc ++ [v]) I.stor List.mem_cons_self I.list
  refine ⟨S, I.ext.trans e, I.pre, I.hid, fun b hb => ?_, upd_same, by rw [List.length_append]; exact Nat.succ_le_succ I.len, (I.rep.append (.cons r .nil)).ext e⟩
  rw [upd_ne (fun z => ?_)]
  · exact I.keep b hb
  · obtain ⟨o, q, _⟩ := S1.there b (List.mem_append_right _ hb)
    rw [z, np] at q; cases q
/-- the reading of a comprehension -/
theorem lc_rd {it : IF} {t : TF} {vs ks : List Nat} {σ : L2.St} {H : Hp} {Q : VK} (hw : ∀ k ∈ ks, k ∈ vs) (q : tD (CvX X T) E (eLc vs t it f g) σ H Q) :
    tLc (tI (CvX X T) E it) (tG (CvX X T) t ks) (fun σ H Q => tD (CvX X T) E0 f σ H fun v H1 => ∃ b, v = .bl b ∧ Q b H1) (tD (CvX X T) E0 g) vs σ H Q := by
  obtain ⟨ρ, α, μ, S, sl, q⟩ := q
  refine ⟨ρ, α, μ, S, sl, ?_⟩
  unfold eLc at q
  cases e : it ρ μ with
  | no => rw [e] at q; exact q.elim
  | er x μ1 => rw [e] at q; exact q
  | ok l μ1 =>
    rw [e, Mi.R.bind_ok] at q
    intro J H1 α1 st1 S1 hl y P np
    have I0 : LcInv (CvX X T) P H1 α1 μ1 0 [] (upd H1 P (.lst [])) α1 μ1 [] :=
      ⟨stor_hide S1 np, ext_hide S1 np, fun _ _ h => h, rfl, (Same.step S1 (same_upd np)).keep, upd_same, Nat.le_refl _, .nil⟩
    refine ⟨fun i m H2 => m = l.length - i ∧ i ≤ l.length ∧ ∃ α2 μ2 acc accD, LcInv (CvX X T) P H1 α1 μ1 i accD H2 α2 μ2 acc ∧ PQ (CvX X T) E Q H1 α1 μ1 (lcL t f g (wipeE ρ vs) (l.drop i) accD μ2),
      ⟨l.length, rfl, Nat.zero_le _, α1, μ1, [], [], I0, PQ.step q st1⟩, ?_⟩
    rintro i m H2 ⟨rfl, hi, α2, μ2, acc, accD, I2, q2⟩
    obtain ⟨yg, ys⟩ := y i H2 (Own (α2.hide P) μ2) I2.ext fun _ h => I2.stor.own_ne h
    by_cases hlt : i < l.length
    · obtain ⟨d, hd⟩ : ∃ d, l[i]? = some d := ⟨l[i], List.getElem?_eq_getElem hlt⟩
      have ed : l.drop i = d :: l.drop (i + 1) := by
        rw [List.drop_eq_getElem_cons hlt]
        congr 1
        rw [List.getElem?_eq_getElem hlt] at hd
        exact Option.some.inj hd
      rw [ed] at q2
      obtain ⟨go, yl⟩ := yg d hd
      refine .inr ⟨go, fun H3 => i + 1 ≤ l.length ∧ ∃ α2 μ2 acc accD, LcInv (CvX X T) P H1 α1 μ1 (i + 1) accD H3 α2 μ2 acc ∧ PQ (CvX X T) E Q H1 α1 μ1 (lcL t f g (wipeE ρ vs) (l.drop (i + 1)) accD μ2), fun H3 n => ⟨_, by omega, rfl, n⟩, fun x H3 yy => ?_⟩
      obtain ⟨sm3, r3⟩ := yl x H3 yy
      obtain ⟨α3, ea, I3⟩ := I2.go (Same.step I2.stor sm3) (I2.stor.same sm3)
      have ea2 : α3 = α2 := by
        obtain ⟨o2, h2⟩ := α2
        obtain ⟨o3, h3⟩ := α3
        injection ea with e1 e2
        injection e2 with _ e3
        subst e1 e3
        rfl
      subst ea2
      have sl3 : Sl (CvX X T) H3 (α3.hide P) μ2 (L2.wipe σ vs) (wipeE ρ vs) := by
        have z := (sl.step st1).wipe vs
        refine ⟨z.len, fun i w h => ?_⟩
        obtain ⟨v, h1, h2⟩ := z.at_ i w h
        refine ⟨v, h1, ?_⟩
        cases w with
        | d d => exact Rp.ext I3.ext h2
        | m k => obtain ⟨a, h3, h4⟩ := h2; exact ⟨a, I3.pre _ _ h3, h4⟩
        | f x => exact h2
        | x k => exact h2
        | e c y => exact RpW.exte I3.ext h2
        | es l => exact RpW.extes I3.ext h2
      unfold lcL at q2
      cases et : t d (wipeE ρ vs) with
      | none => rw [et] at q2; exact q2.elim
      | some ρ3 =>
        rw [et] at q2
        refine ⟨wipeE ρ vs, α3.hide P, μ2, d, ρ3, I3.stor, sl3, r3, et, fun σ3 o3 sl4 => ⟨(o3.wipe hw).trans (wipe_wipe σ vs), ρ3, α3.hide P, μ2, I3.stor, sl4, ?_⟩⟩
        dsimp only at q2
        cases ef : f ρ3 μ2 with
        | no => rw [ef] at q2; exact q2.elim
        | er x μ3 => rw [ef] at q2; exact q2.elim
        | ok w μ3 =>
          rw [ef] at q2
          intro v4 H4 α4 st4 S4 r4
          obtain ⟨α5, e5, I5⟩ := I3.go st4 S4
          subst e5
          split at q2
          · rename_i μ3' e3
            cases e3
            cases r4
            refine ⟨true, rfl, ?_⟩
            show if true = true then _ else _
            rw [if_pos rfl]
            refine ⟨ρ3, α5.hide P, μ3, S4, sl4.step st4, ?_⟩
            split at q2
            · rename_i z μ6 eg
              rw [eg]
              intro v6 H6 α6 st6 S6 r6
              obtain ⟨α7, e7, I7⟩ := I5.go st6 S6
              subst e7
              exact ⟨acc, I7.list, Nat.lt_of_le_of_lt I7.len (Nat.lt_of_lt_of_le hlt hl), hlt, α7, μ6, _, _, I7.put np S1 r6, q2⟩
            · exact q2.elim
          · rename_i μ3' e3
            cases e3
            cases r4
            refine ⟨false, rfl, ?_⟩
            show if false = true then _ else _
            rw [if_neg Bool.false_ne_true]
            exact ⟨hlt, α5, μ3, acc, accD, ⟨I5.stor, I5.ext, I5.pre, I5.hid, I5.keep, I5.list, Nat.le_succ_of_le I5.len, I5.rep⟩, q2⟩
          · exact q2.elim
    · have e0 : l.drop i = [] := List.drop_eq_nil_of_le (by omega)
      rw [e0] at q2
      refine .inl ⟨ys (by omega), q2 _ H2 α2 I2.st (stor_unhide I2.stor) (.lst (.inl I2.list) (fun z => ?_) (I2.rep.ext ext_unhide))⟩
      have hn := (nodup_hide I2.stor).1
      rcases z with ⟨k, c, h1, h2⟩ | z
      · exact hn (List.mem_append_left _ (List.mem_of_getElem? h1))
      · exact hn (List.mem_append_right _ z)
theorem de_lc {it : IF} {t : TF} {ks : List Nat} {elt iter : Expr} {ifs : List Expr} {scope : Scope} {own : List (Str × Nat)} (ck : CK X E j) (hi : DI X T E tg iter it) (ok : BlkOk X.N X.env.scope scope own)
    (hg : ∀ (s : Shared) (H : Hp) (D : Addr) (cl : List (Str × Addr)) (fp : List Addr), DG (X.blk s H scope (compEnvC scope cl D X.env) fp) T tg t ks)
    (ht : ∀ (s : Shared) (H : Hp) (D : Addr) (cl : List (Str × Addr)) (fp : List Addr), CK (X.blk s H scope (compEnvC scope cl D X.env) fp) E0 j → DC (X.blk s H scope (compEnvC scope cl D X.env) fp) T ifs f)
    (he : ∀ (s : Shared) (H : Hp) (D : Addr) (cl : List (Str × Addr)) (fp : List Addr), CK (X.blk s H scope (compEnvC scope cl D X.env) fp) E0 j → DE (X.blk s H scope (compEnvC scope cl D X.env) fp) T E0 elt g)
    (hw : ∀ k ∈ ks, k ∈ own.map (·.2) := by decide) (hs : ∀ x, foldedSetIterable iter X.env x = pure x := by intro _; rfl) :
    DE X T E (.ListComp elt [⟨tg, iter, ifs, 0⟩] scope pos) (eLc (own.map (·.2)) t it f g) :=
  pe_imp (pe_lc (g := tG (CvX X T) t ks) (tt := fun σ H Q => tD (CvX X T) E0 f σ H fun v H1 => ∃ b, v = .bl b ∧ Q b H1) (te := tD (CvX X T) E0 g) ck.calm ck.nd hi ok hg (fun s H D cl fp => (ht s H D cl fp (ck.blk s H scope _ fp)).pts) (fun s H D cl fp => he s H D cl fp (ck.blk s H scope _ fp)) hs) fun σ H Q q => lc_rd hw q
/-- y = [..] on one line -/
theorem ds_setLc (i : Nat) {y : Str} {py : Pos} {it : IF} {t : TF} {ks : List Nat} {elt iter : Expr} {ifs : List Expr} {scope : Scope} {own : List (Str × Nat)} {spos : Pos} (ck : CK X E j) (hi : DI X T E tg iter it) (ok : BlkOk X.N X.env.scope scope own)
    (hg : ∀ (s : Shared) (H : Hp) (D : Addr) (cl : List (Str × Addr)) (fp : List Addr), DG (X.blk s H scope (compEnvC scope cl D X.env) fp) T tg t ks)
    (ht : ∀ (s : Shared) (H : Hp) (D : Addr) (cl : List (Str × Addr)) (fp : List Addr), CK (X.blk s H scope (compEnvC scope cl D X.env) fp) E0 j → DC (X.blk s H scope (compEnvC scope cl D X.env) fp) T ifs f)
    (he : ∀ (s : Shared) (H : Hp) (D : Addr) (cl : List (Str × Addr)) (fp : List Addr), CK (X.blk s H scope (compEnvC scope cl D X.env) fp) E0 j → DE (X.blk s H scope (compEnvC scope cl D X.env) fp) T E0 elt g)
    (hy : X.N[i]? = some y := by rfl) (hyl : X.env.scope.names.lookup y = some .local := by rfl) (hsw : swapsWith (.ListComp elt [⟨tg, iter, ifs, 0⟩] scope pos) (some (.Name y py)) spos.line X.env = pure true := by exact sw_true rfl rfl rfl (by decide +kernel))
    (hw : ∀ k ∈ ks, k ∈ own.map (·.2) := by decide) (hs : ∀ x, foldedSetIterable iter X.env x = pure x := by intro _; rfl) :
    DS X T E (.Assign [.Name y py] (.ListComp elt [⟨tg, iter, ifs, 0⟩] scope pos) spos) (sAsg i (eLc (own.map (·.2)) t it f g)) :=
  ps_imp (ps_setLc (g := tG (CvX X T) t ks) (tt := fun σ H Q => tD (CvX X T) E0 f σ H fun v H1 => ∃ b, v = .bl b ∧ Q b H1) (te := tD (CvX X T) E0 g) ck.calm ck.nd hy hyl hsw hi ok hg (fun s H D cl fp => (ht s H D cl fp (ck.blk s H scope _ fp)).pts) (fun s H D cl fp => he s H D cl fp (ck.blk s H scope _ fp)) hs) fun D σ H ⟨ρ, α, μ, S, sl, q⟩ => by
    refine lc_rd (E := E) hw ⟨ρ, α, μ, S, sl, ?_⟩
    cases e : eLc (own.map (·.2)) t it f g ρ μ with
    | ok w μ1 =>
      unfold sAsg at q
      rw [e, Mi.R.bindS_ok] at q
      exact fun v H1 α1 st S1 r => q _ H1 α1 st S1 ((sl.step st).set r i)
    | er x μ1 => unfold sAsg at q; rw [e] at q; exact q
    | no => unfold sAsg at q; rw [e] at q; exact q
end
/-! ### raise; a def's body -/
section
variable {X : Cx} {T : List (Addr × Str)} {E : XK} {j : Nat} {pos : Pos}
/-- an own class over ValueError without an __init__ of its own -/
structure OwnEx (K : PySem.W.Frag) (mg : Str → Option Value) (x : Str) : Prop where
  ex : ∃ A, mg x = some (.ref A) ∧ PySem.W.keepIn K (.ref A) = true ∧ PySem.W.excIn K A [.type "ValueError", .type "Exception", .type "BaseException", .type "object"] "ValueError.__new__" = true ∧
    PySem.W.subIn K (.ref A) (.type "BaseException") = some true ∧ PySem.W.typeIn K (.ref A) = some (.type "type")
theorem ds_raise {x m : Str} {j' : Nat} {p p2 p3 : Pos} (ck : CK X E j) (hx : OwnEx X.K X.mg x) (hg : Gl X x := by rfl) (hdb : (x == ("__debug__" : Str)) = false := by decide) :
    DS X T E (.Raise (some (.Call (.Name x p) [.Constant (.str m) j' p2] [] p3)) none pos) (sRaise x) := by
  obtain ⟨A, gC, kC, xC, bC, tC⟩ := hx.ex
  exact ps_imp (L2N.ps_raise ck.calm ck.takes (L2N.pmk_own PySem.F.excBase_ValueError xC gC kC (raises_own bC tC) hg hdb)) fun D σ H ⟨ρ, α, μ, S, sl, q⟩ => q _ _ H α (.refl _ _ _) S ⟨gC, rfl⟩
end
section
variable {P : Program} {w : World} {K : PySem.W.Frag} {mg : Str → Option Value} {base : Heap} {T : List (Addr × Str)}
theorem Sl.start {C : Cv} {H : Hp} {α : Al} {μ : Sto} : ∀ {vs : List V} {ws : List W}, RpWs C H α μ vs ws → ∀ m, (∀ (i : Nat) (w : W), (ws.map some ++ List.replicate m (none : Option W))[i]? = some (some w) → ∃ v, (vs.map some ++ List.replicate m (none : Option V))[i]? = some (some v) ∧ RpW C H α μ v w)
  | _, _, .nil, m => fun i w h => by
    have h : (List.replicate m (none : Option W))[i]? = some (some w) := h
    have z := List.mem_of_getElem? h
    rw [List.mem_replicate] at z
    cases z.2
  | _, _, .cons r t, m => fun i w h => by
    cases i with
    | zero =>
      have h : some (some _) = some (some w) := h
      injection h with h
      injection h with h
      subst h
      exact ⟨_, rfl, r⟩
    | succ i => exact Sl.start t m i w (by simpa using h)
/-- what a callee leaves, without its own -/
theorem stor_cut {C : Cv} {H H' : Hp} {α α' : Al} {μ μ' : Sto} {n : Nat} (S : Stor C H α μ) (st : Step H α μ H' α' μ') (S' : Stor C H' α' μ') (hn : μ.length ≤ n) :
    Step H α μ H' ⟨α'.own.take n, α'.hid⟩ (μ'.take n) ∧ Stor C H' ⟨α'.own.take n, α'.hid⟩ (μ'.take n) ∧ Step H' α' μ' H' α' μ' ∧ Ext H' (Own α' μ') H' (Own ⟨α'.own.take n, α'.hid⟩ (μ'.take n)) := by
  have ow : ∀ {a}, Own ⟨α'.own.take n, α'.hid⟩ (μ'.take n) a → Own α' μ' a := fun {a} h => by
    rcases h with ⟨k, c, h1, h2⟩ | h
    · have h1 : (α'.own.take n)[k]? = some a := h1
      rw [List.getElem?_take] at h1 h2
      split at h1
      · rename_i hk
        rw [if_pos hk] at h2
        exact .inl ⟨k, c, h1, h2⟩
      · cases h1
    · exact .inr h
  have ex : Ext H' (Own α' μ') H' (Own ⟨α'.own.take n, α'.hid⟩ (μ'.take n)) := ⟨fun b o h m _ => ⟨h, fun z => m (ow z)⟩, fun _ _ h => h, fun _ _ _ h => h⟩
  refine ⟨⟨st.ext.trans ex, fun k a h => ?_, st.hid, st.keep⟩, ⟨?_, ?_, fun a h => S'.there a ?_, fun k c h => ?_, S'.tabs⟩, .refl _ _ _, ex⟩
  · have hk : k < α.own.length := (List.getElem?_eq_some_iff.mp h).1
    have hl := S.len
    show (α'.own.take n)[k]? = some a
    rw [List.getElem?_take, if_pos (by omega)]
    exact st.pre k a h
  · show (α'.own.take n).length = (μ'.take n).length
    rw [List.length_take, List.length_take, S'.len]
  · show (α'.own.take n ++ α'.hid).Nodup
    have h := S'.nd
    rw [List.nodup_append] at h ⊢
    exact ⟨h.1.sublist (List.take_sublist _ _), h.2.1, fun a ha b hb => h.2.2 a (List.mem_of_mem_take ha) b hb⟩
  · have h : a ∈ α'.own.take n ++ α'.hid := h
    rcases List.mem_append.mp h with h | h
    · exact List.mem_append_left _ (List.mem_of_mem_take h)
    · exact List.mem_append_right _ h
  · rw [List.getElem?_take] at h
    split at h
    · rename_i hk
      obtain ⟨a, h1, h2⟩ := S'.cell k c h
      refine ⟨a, ?_, ?_⟩
      · show (α'.own.take n)[k]? = some a
        rw [List.getElem?_take, if_pos hk]
        exact h1
      · exact h2.ext ex rfl
    · cases h
theorem fin_ok {C : Cv} {E : XK} {Q : VK} {D : Ends} {H : Hp} {α : Al} {μ : Sto} {r : RS} (S : Stor C H α μ) (hD : D.nx = (fun _ H' => Q .non H') ∧ D.rt = Q) (q : PQ C E Q H α μ (fin μ.length r)) : QS C E D H α μ r := by
  obtain ⟨h1, h2⟩ := hD
  cases r with
  | nx ρ μ' =>
    intro σ' H' α' st S' _
    rw [h1]
    obtain ⟨s2, S2, _, ex⟩ := stor_cut S st S' (Nat.le_refl _)
    exact q .non H' _ s2 S2 .non
  | bk ρ μ' => exact q.elim
  | ct ρ μ' => exact q.elim
  | no => exact q.elim
  | er x μ' =>
    intro cls d H' α' st S' rx
    obtain ⟨s2, S2, _, ex⟩ := stor_cut S st S' (Nat.le_refl _)
    exact q cls d H' _ s2 S2 rx
  | rt w μ' =>
    intro v H' α' st S' rv
    rw [h2]
    cases w with
    | d d =>
      obtain ⟨s2, S2, _, ex⟩ := stor_cut S st S' (Nat.le_refl _)
      exact q v H' _ s2 S2 (Rp.ext ex rv)
    | f x =>
      obtain ⟨s2, S2, _, ex⟩ := stor_cut S st S' (Nat.le_refl _)
      exact q v H' _ s2 S2 rv
    | e c y =>
      obtain ⟨s2, S2, _, ex⟩ := stor_cut S st S' (Nat.le_refl _)
      exact q v H' _ s2 S2 (RpW.exte ex rv)
    | es l =>
      obtain ⟨s2, S2, _, ex⟩ := stor_cut S st S' (Nat.le_refl _)
      exact q v H' _ s2 S2 (RpW.extes ex rv)
    | x k => exact q.elim
    | m k =>
      obtain ⟨a, ha, rfl⟩ := rv
      have q : PQ C E Q H α μ (if k < μ.length then .ok (.m k) (μ'.take μ.length) else if k = μ.length then .ok (.m k) (μ'.take (μ.length + 1)) else .no) := q
      split at q
      · rename_i hk
        obtain ⟨s2, S2, _, ex⟩ := stor_cut S st S' (Nat.le_refl _)
        refine q _ H' _ s2 S2 ⟨a, ?_, rfl⟩
        show (α'.own.take μ.length)[k]? = some a
        rw [List.getElem?_take, if_pos hk]
        exact ha
      · split at q
        · rename_i hk
          obtain ⟨s2, S2, _, ex⟩ := stor_cut S st S' (Nat.le_succ _)
          refine q _ H' _ s2 S2 ⟨a, ?_, rfl⟩
          show (α'.own.take (μ.length + 1))[k]? = some a
          rw [List.getElem?_take, if_pos (by omega)]
          exact ha
        · exact q.elim
/-- THE RULE: a def whose body does what F says keeps the promise that F makes -/
theorem fn_ok {x : Str} {params : Arguments} {body : List Stmt} {scope : Scope} {dvs : List V} {kws : List (Str × V)} {f : Addr} {fd : FuncData} {N ps : List Str} {k : Nat} {F : SF} (Fu : FunD K x x params body scope dvs kws f fd) (S : FnScope N ps scope)
    (hbody : ∀ (cdv : Value) (A : Around) (outer : List PySem.Env) (s : Shared) (H : Hp) (E : XK), CK (cxOf (L2N.CX P w) P w K mg base N x scope f cdv A outer s H E) E k →
      PassesOwn (model P w) (cxOf (L2N.CX P w) P w K mg base N x scope f cdv A outer s H E).A (cxOf (L2N.CX P w) P w K mg base N x scope f cdv A outer s H E).env (cxOf (L2N.CX P w) P w K mg base N x scope f cdv A outer s H E).xe →
      DSs (cxOf (L2N.CX P w) P w K mg base N x scope f cdv A outer s H E) T E body F) : FnOk P w K mg base (L2N.CX P w) (k + 1) f fd ps (spD ⟨K, mg, T⟩ (fnOf ps.length N.length F)) := by
  refine Fu.ok S (fun vs H Q E h => ?_) fun cdv A outer s H vs Q E hr h => ?_
  · obtain ⟨ws, α, μ, S, rs, q⟩ := h
    unfold fnOf at q
    split at q
    · rename_i hl
      rw [rs.length]
      exact hl
    · exact q.elim
  · obtain ⟨ws, α, μ, St, rs, q⟩ := h
    have tk : L2N.Takes (cxOf (L2N.CX P w) P w K mg base N x scope f cdv A outer s H E) (fun cls d _ H => E cls d H) := L2N.takes_of rfl rfl rfl rfl
    refine ⟨_, hbody cdv A outer s H E ⟨rfl, S.nd, hr, tk⟩ (passes_of rfl), ?_⟩
    unfold fnOf at q
    split at q
    · rename_i hl
      refine ⟨startE N.length ws, α, μ, St, ⟨?_, ?_⟩, fin_ok (D := { nx := fun _ H' => Q .non H', rt := Q }) St ⟨rfl, rfl⟩ q⟩
      · have e := rs.length
        simp only [startE, L2.start, List.length_append, List.length_map, List.length_replicate, e]
      · have e := rs.length
        have z := Sl.start rs (N.length - ws.length)
        unfold startE L2.start
        rw [e]
        exact z
    · exact q.elim
theorem fn_okD {x : Str} {st : Stmt} {N ps : List Str} {k : Nat} {F : SF} (d : DefFact K mg x st ps) (S : FnScope N ps (defScope st))
    (hbody : ∀ (f : Addr) (cdv : Value) (A : Around) (outer : List PySem.Env) (s : Shared) (H : Hp) (E : XK), CK (cxOf (L2N.CX P w) P w K mg base N x (defScope st) f cdv A outer s H E) E k →
      PassesOwn (model P w) (cxOf (L2N.CX P w) P w K mg base N x (defScope st) f cdv A outer s H E).A (cxOf (L2N.CX P w) P w K mg base N x (defScope st) f cdv A outer s H E).env (cxOf (L2N.CX P w) P w K mg base N x (defScope st) f cdv A outer s H E).xe →
      DSs (cxOf (L2N.CX P w) P w K mg base N x (defScope st) f cdv A outer s H E) T E (defBody st) F) : HasFn P w K mg base T (k + 1) x (fnOf ps.length N.length F) := by
  obtain ⟨f, fd, dvs, kws, Fu, hm, hb⟩ := d.ex
  exact ⟨f, fd, ps, [], [], [], _, hm, Fu.kp, hb, .nil, fun _ _ => .nil, fun ws μ => by rw [List.map_nil, List.append_nil], fn_ok Fu S (hbody f)⟩
/-- .. called with less -/
theorem fn_ok1 {x : Str} {st : Stmt} {N ps : List Str} {k : Nat} {F : SF} {dd : List PyData} (d : DefFact1 K mg x st ps dd) (S : FnScope N ps (defScope st))
    (hbody : ∀ (f : Addr) (cdv : Value) (A : Around) (outer : List PySem.Env) (s : Shared) (H : Hp) (E : XK), CK (cxOf (L2N.CX P w) P w K mg base N x (defScope st) f cdv A outer s H E) E k →
      PassesOwn (model P w) (cxOf (L2N.CX P w) P w K mg base N x (defScope st) f cdv A outer s H E).A (cxOf (L2N.CX P w) P w K mg base N x (defScope st) f cdv A outer s H E).env (cxOf (L2N.CX P w) P w K mg base N x (defScope st) f cdv A outer s H E).xe →
      DSs (cxOf (L2N.CX P w) P w K mg base N x (defScope st) f cdv A outer s H E) T E (defBody st) F) : HasFn P w K mg base T (k + 1) x (fun ws μ => fnOf ps.length N.length F (ws ++ dd.map W.d) μ) := by
  obtain ⟨f, fd, dvs, kws, ds, Fu, hm, hb, hv, hd⟩ := d.ex
  exact ⟨f, fd, ps, ds, dvs, dd, _, hm, Fu.kp, hb, hv, hd, fun ws μ => rfl, fn_ok Fu S (hbody f)⟩
/-- a promise that asks too much -/
theorem fn_no {x : Str} {st : Stmt} {ps : List Str} {k : Nat} (d : DefFact K mg x st ps) : HasFn P w K mg base T k x (fun _ _ => .no) := by
  obtain ⟨f, fd, dvs, kws, Fu, hm, hb⟩ := d.ex
  exact ⟨f, fd, ps, [], [], [], fun _ _ => .no, hm, Fu.kp, hb, .nil, fun _ _ => .nil, fun ws μ => rfl, ⟨fun vs H Q E h => by
    obtain ⟨ws, α, μ, S, rs, q⟩ := h
    exact q.elim, fun A outer s H args us vs Q E _ _ _ _ h => by
    obtain ⟨ws, α, μ, S, rs, q⟩ := h
    exact q.elim⟩⟩
end
end L3

set_option Elab.async false
set_option linter.all false
set_option maxRecDepth 100000
set_option maxHeartbeats 2000000
/-! While an exception is handled: iterators that end, unpacking, comprehensions over zip. -/
namespace HotY
open PySem PySem.Spec PyProof.Rows L2 HotX L2H
section
variable {prog : Program} {w : World} {A : Around} {E : Value → Shared → Prop} {s : Shared}
theorem HotAt.keep {x1 : Addr} {h h' : Heap} (hot : HotAt A x1 h) (k : ∀ o, h.get? x1 = some o → h'.get? x1 = some o) : HotAt A x1 h' := by
  obtain ⟨hh, o, vs, h1, d1, c1⟩ := hot
  exact ⟨hh, o, vs, k o h1, d1, c1⟩
theorem HotAt.ne {x1 b : Addr} {h : Heap} {o : Obj} {vs : Array Value} (hot : HotAt A x1 h) (hb : h.get? b = some o) (hd : o.data = .fields vs) (hn : vs[2]? ≠ some .none) : x1 ≠ b := fun e => by
  obtain ⟨hh, o1, vs1, h1, d1, c1⟩ := hot
  rw [e, hb] at h1
  cases h1
  rw [hd] at d1
  cases d1
  exact hn c1
theorem HotAt.neL {x1 it l : Addr} {i : Nat} {h : Heap} (hot : HotAt A x1 h) (hit : h.IsListIter it l i) : x1 ≠ it := by
  obtain ⟨o, ho, hc, hd⟩ := hit
  exact HotAt.ne hot ho hd (by simp)
theorem HotAt.neT {x1 it l : Addr} {i : Nat} {h : Heap} (hot : HotAt A x1 h) (hit : IsTupIter h it l i) : x1 ≠ it := by
  obtain ⟨o, ho, hc, hd⟩ := hit
  exact HotAt.ne hot ho hd (by simp)
/-- StopIteration raised while an exception is handled -/
theorem stop_hot {α : Type} {x1 : Addr} {Q : α → Shared → Prop} (hot : HotAt A x1 s.heap)
    (hE : ∀ h' e, (∀ b o, s.heap.get? b = some o → h'.get? b = some o) → (∃ o, h'.get? e = some o ∧ o.cls = .type "StopIteration") → E (.ref e) { s with heap := h' }) :
    wpAny (model prog w) A ((newExc (.type "StopIteration") [] >>= fun e => raiseNew e) : Sem α) Q E s := by
  refine wpAny_bind ?_
  simp only [newExc, newTuple]
  refine wpAny_bind (wpAny_newObj_type ?_ (by size_fits))
  refine wpAny_bind (m := firstArgMember _ _) (wpAny_of_eq (a := Value.none) (by first | rfl | (simp only [firstArgMember]; rfl)) ?_)
  refine wpAny_newObj_type ?_ (by size_fits)
  obtain ⟨hh, o1, vs1, h1, d1, c1⟩ := hot
  refine raiseNew_hot ⟨hh, o1, vs1, Heap.get?_push_of_some _ (Heap.get?_push_of_some _ h1), d1, c1⟩ (Nat.ne_of_lt (Heap.lt_size (Heap.get?_push_of_some _ h1))) (Heap.get?_push_size _ rfl) rfl (by first | (simp; done) | (simp; omega) | (simp only [Array.size_append]; simp; omega)) ?_
  refine hE _ _ (fun b o e => ?_) ⟨_, Heap.get?_update_self _ (Heap.get?_push_size _ rfl) rfl, rfl⟩
  rw [Heap.get?_update_other _ _ (Nat.ne_of_gt (Heap.lt_size (Heap.get?_push_of_some _ e)))]
  exact Heap.get?_push_of_some _ (Heap.get?_push_of_some _ e)
theorem nextOf_list_end_hot {it l x1 : Addr} {i : Nat} {items} {Q : Value → Shared → Prop} (hot : HotAt A x1 s.heap)
    (hit : s.heap.IsListIter it l i) (hl : s.heap.IsList l items) (hx : items[i]? = none)
    (hE : ∀ h' e, Heap.ExtBut it s.heap h' → (∃ o, h'.get? e = some o ∧ o.cls = .type "StopIteration") → E (.ref e) { s with heap := h' }) :
    wpAny (model prog w) A (Builtin.SmallTypes.nextOf (.ref it)) Q E s := by
  have hne := HotAt.neL hot hit
  obtain ⟨o, ho, hc, hd⟩ := id hit
  obtain ⟨ol, hol, _, nl, hdl⟩ := hl
  unfold Builtin.SmallTypes.nextOf
  refine wpAny_bind (wpAny_callSpecial?_slot (name := Str.ofString "__next__") hit.typeIs slot_listiter_next
    (wpAny_call_entry slot_listiter_next hit.typeIs entry_listiter_next ?_ (args_listiter_next _)))
  show wpAny _ _ (field (.ref it) 0 >>= _) _ _ s
  refine wpAny_bind (wpAny_field ho hd (x := .ref l) rfl ?_)
  show wpAny _ _ (if (Value.ref l == Value.none) = true then _ else _) _ _ s
  rw [if_neg (show ¬ ((Value.ref l == Value.none) = true) from Bool.false_ne_true)]
  show wpAny _ _ (field (.ref it) 1 >>= _) _ _ s
  refine wpAny_bind (wpAny_field ho hd (x := .int i 0) rfl ?_)
  show wpAny _ _ (seqItems? (.ref l) >>= _) _ _ s
  refine wpAny_bind (wpAny_seqItems hol hdl ?_)
  simp only [Int.toNat_natCast, hx]
  refine wpAny_bind (wpAny_rule (wpAny_bind (wpAny_setField ho hd (by simp) ?_)))
  refine stop_hot (x1 := x1) (HotAt.keep (h' := s.heap.update it (Obj.mapFields (·.setIfInBounds 0 .none))) hot fun o1 e1 => ?_) fun h' e k st => hE h' e (fun b o1 hb e1 => k b o1 ?_) st
  · rw [Heap.get?_update_other _ _ (Ne.symm hne)]; exact e1
  · show (s.heap.update it _).get? b = _
    rw [Heap.get?_update_other _ _ (Ne.symm hb)]; exact e1
theorem next_tuple_end_hot {it t x1 : Addr} {i : Nat} {items} {Q : Option Value → Shared → Prop} (hot : HotAt A x1 s.heap)
    (hit : IsTupIter s.heap it t i) (ht : IsTup s.heap t items) (hx : items[i]? = none)
    (hQ : ∀ h', Heap.ExtBut it s.heap h' → Q none { s with heap := h' }) : wpAny (model prog w) A (pyNext (.ref it)) Q E s := by
  have hne := HotAt.neT hot hit
  obtain ⟨o, ho, hc, hd⟩ := id hit
  obtain ⟨ol, hol, _, nl, hdl⟩ := ht
  unfold pyNext
  refine wpAny_bind (wpAny_attempt (wpAny_callSpecial?_slot (name := Str.ofString "__next__") hit.typeIs slot_tupleiter_next
    (wpAny_call_entry slot_tupleiter_next hit.typeIs entry_tupleiter_next ?_ (args_tupleiter_next _))))
  show wpAny _ _ (field (.ref it) 0 >>= _) _ _ s
  refine wpAny_bind (wpAny_field ho hd (x := .ref t) rfl ?_)
  show wpAny _ _ (if (Value.ref t == Value.none) = true then _ else _) _ _ s
  rw [if_neg (show ¬ ((Value.ref t == Value.none) = true) from Bool.false_ne_true)]
  show wpAny _ _ (field (.ref it) 1 >>= _) _ _ s
  refine wpAny_bind (wpAny_field ho hd (x := .int i 0) rfl ?_)
  show wpAny _ _ (seqItems? (.ref t) >>= _) _ _ s
  refine wpAny_bind (wpAny_seqItems hol hdl ?_)
  simp only [Int.toNat_natCast, hx]
  refine wpAny_bind (wpAny_rule (wpAny_bind (wpAny_setField ho hd (by simp) ?_)))
  refine stop_hot (x1 := x1) (HotAt.keep (h' := s.heap.update it (Obj.mapFields (·.setIfInBounds 0 .none))) hot fun o1 e1 => ?_) fun h' e k st => ?_
  · rw [Heap.get?_update_other _ _ (Ne.symm hne)]; exact e1
  · obtain ⟨oe, he, hce⟩ := st
    refine wpAny_bind (wpAny_isInstance (T := "StopIteration") (b := true) ⟨_, he, hce⟩ isSubtype_stop ?_)
    refine wpAny_pure (hQ _ fun b o1 hb e1 => k b o1 ?_)
    show (s.heap.update it _).get? b = _
    rw [Heap.get?_update_other _ _ (Ne.symm hb)]; exact e1
theorem unpackItems_tuple_hot {t x1 : Addr} {items : Array Value} {Q : List Value → Shared → Prop} (hot : HotAt A x1 s.heap) (ht : IsTup s.heap t items)
    (hQ : ∀ h', Heap.ExtBut s.heap.objs.size s.heap h' → Q items.toList { s with heap := h' }) : wpAny (model prog w) A (unpackItems (.ref t) items.size none) Q E s := by
  have hlt : t ≠ s.heap.objs.size := by obtain ⟨o, ho, _⟩ := ht; exact Nat.ne_of_lt (Heap.lt_size ho)
  unfold unpackItems
  refine wpAny_bind ?_
  · unfold notIterableAtAll
    refine wpAny_bind (wpAny_specialOf ht.typeIs slot_tuple_iter.lookup ?_)
    refine wpAny_pure ?_
    simp only [Bool.false_eq_true, if_false]
    refine wpAny_bind (wpAny_holding (iter_tuple ht ?_))
    refine wpAny_bind (wpAny_holding (draw_tuple hlt items.size 0 _ _ ⟨_, Heap.get?_push_size _ rfl, rfl, rfl⟩ (ht.push _) (by omega) fun h₁ hit₁ hs₁ => ?_))
    have hall : List.take items.size (List.drop 0 items.toList) = items.toList := by
      rw [List.drop_zero]; exact List.take_of_length_le (by simp)
    rw [hall]
    rw [if_neg (by simp)]
    have ht₁ : IsTup h₁ t items := (ht.push _).extBut hs₁.extBut hlt
    have hot1 : HotAt A x1 h₁ := HotAt.keep hot fun o e => hs₁.extBut _ _ (Nat.ne_of_lt (Heap.lt_size e)) (Heap.get?_push_of_some _ e)
    refine wpAny_bind (wpAny_holding (next_tuple_end_hot (s := { s with heap := h₁ }) hot1 hit₁ ht₁ (by simp) fun h₂ he₂ => ?_))
    simp only [Option.isSome_none, Bool.false_eq_true, if_false]
    refine wpAny_pure (hQ h₂ fun b o hb e => he₂ b o hb (hs₁.extBut b o hb (Heap.get?_push_of_some _ e)))
theorem assign_Tuple_tuple_hot {env : Env} {elts : List Expr} {k} {pos : Pos} {t x1 : Addr} {items : Array Value} {Q : Unit → Shared → Prop} (hot : HotAt A x1 s.heap) (ht : IsTup s.heap t items)
    (hn : (assignEach elts env).length = items.size) (hstar : (assignEach elts env).findIdx? (·.1) = none)
    (h : ∀ h', Heap.ExtBut s.heap.objs.size s.heap h' → wpAny (model prog w) A (assignInOrder ((assignEach elts env).map (·.2)) items.toList) Q E { s with heap := h' }) :
    wpAny (model prog w) A (assign (.Tuple elts k pos) env (.ref t)) Q E s := by
  rw [assign_Tuple]
  refine wpAny_bind (wpAny_standAt ?_)
  unfold unpack
  rw [hn, hstar]
  exact wpAny_bind (wpAny_holding (unpackItems_tuple_hot hot ht h))
theorem zip_next_end_hot {x1 z TI TO i1 i2 l1 l2 : Addr} {k1 k2 : Nat} {xs ys : Array Value} {a b : Value} {Q : Fin → Shared → Prop} (hot : HotAt A x1 s.heap) (D : ZipApart z TI TO i1 i2 l1 l2)
    (hz : IsZip s.heap z TI TO .none) (hTI : IsPair s.heap TI (.ref i1) (.ref i2)) (hTO : IsPair s.heap TO a b)
    (h1 : s.heap.IsListIter i1 l1 k1) (h2 : s.heap.IsListIter i2 l2 k2) (hl1 : s.heap.IsList l1 xs) (hl2 : s.heap.IsList l2 ys) (hend : xs[k1]? = none ∨ ys[k2]? = none)
    (hE : ∀ h' e, (∀ c o, c ≠ z → c ≠ TO → c ≠ i1 → c ≠ i2 → s.heap.get? c = some o → h'.get? c = some o) → (∃ o, h'.get? e = some o ∧ o.cls = .type "StopIteration") → E (.ref e) { s with heap := h' }) :
    wpAny (model prog w) A (Builtin.«zip.__next__» ⟨[.ref z], []⟩) Q E s := by
  have nz : x1 ≠ z := HotAt.ne hot hz rfl (by simp)
  have n1 := HotAt.neL hot h1
  have n2 := HotAt.neL hot h2
  have nTO : x1 ≠ TO := fun e => by
    obtain ⟨hh, o1, vs1, e1, d1, c1⟩ := hot
    rw [e, hTO] at e1
    cases e1
    cases d1
  show wpAny _ _ (field (.ref z) 2 >>= _) _ _ _
  refine wpAny_bind (wpAny_field hz rfl (x := .bool false) rfl ?_)
  show wpAny _ _ (field (.ref z) 3 >>= _) _ _ _
  refine wpAny_bind (wpAny_field hz rfl (x := .ref TI) rfl ?_)
  refine wpAny_bind (wpAny_seqItems hTI rfl ?_)
  show wpAny _ _ (Builtin.SmallTypes.ownedTupleIsFree (.ref z) >>= _) _ _ _
  refine wpAny_bind ?_
  unfold Builtin.SmallTypes.ownedTupleIsFree
  refine wpAny_bind (wpAny_field hz rfl (x := .none) rfl (wpAny_pure ?_))
  simp only [if_true]
  refine wpAny_bind (wpAny_rule ?_)
  refine wpAny_bind (wpAny_field hz rfl (x := .ref TO) rfl ?_)
  refine wpAny_bind (wpAny_setField_rec hz (by simp) fun h₁ hz₁ hs₁ => ?_)
  replace hz₁ : IsZip h₁ z TI TO .ellipsis := hz₁
  have hot1 : HotAt A x1 h₁ := HotAt.keep hot fun o e => hs₁.extBut _ _ nz e
  refine wpAny_bind ?_
  simp only [List.zipIdx_cons, List.zipIdx_nil, List.forIn_cons, List.forIn_nil]
  refine wpAny_bind (wpAny_bind (wpAny_onRaise ?_))
  show wpAny _ _ (Builtin.SmallTypes.nextOf (.ref i1) >>= _) _ _ _
  cases hx : xs[k1]? with
  | none =>
    refine wpAny_bind (nextOf_list_end_hot (x1 := x1) (s := { s with heap := h₁ }) hot1 (h1.extBut hs₁.extBut D.i1z) (hl1.extBut hs₁.extBut D.l1z) hx fun h₂ e hs₂ he => ?_)
    obtain ⟨oe, hoe, hce⟩ := he
    have hz₂ : IsZip h₂ z TI TO .ellipsis := hs₂ _ _ D.i1z.symm hz₁
    have hez : e ≠ z := fun x => by subst x; rw [hz₂] at hoe; cases hoe; simp at hce
    refine wpAny_setField_rec hz₂ (by simp) fun h₃ _ hs₃ => hE h₃ e (fun c o c1 _ c3 _ x => hs₃.extBut _ _ c1 (hs₂ _ _ c3 (hs₁.extBut _ _ c1 x))) ⟨oe, hs₃.extBut _ _ hez hoe, hce⟩
  | some x =>
    have hy : ys[k2]? = none := by rcases hend with h | h; rw [hx] at h; cases h; exact h
    refine wpAny_bind (wpAny_nextOf_list_item (h1.extBut hs₁.extBut D.i1z) (hl1.extBut hs₁.extBut D.l1z) hx fun h₂ h1₂ hs₂ => wpAny_pure ?_)
    have hTO₂ : IsPair h₂ TO a b := hs₂.extBut _ _ D.TOi1 (hs₁.extBut _ _ D.TOz hTO)
    refine wpAny_bind (wpAny_seqItems hTO₂ rfl ?_)
    refine wpAny_bind (wpAny_updateSeq_pair hTO₂ fun h₃ hTO₃ hs₃ => ?_)
    refine wpAny_bind (wpAny_letGo (wpAny_pure ?_))
    refine wpAny_bind (wpAny_bind (wpAny_onRaise ?_))
    show wpAny _ _ (Builtin.SmallTypes.nextOf (.ref i2) >>= _) _ _ _
    have hot3 : HotAt A x1 h₃ := HotAt.keep hot1 fun o e => hs₃.extBut _ _ nTO (hs₂.extBut _ _ n1 e)
    refine wpAny_bind (nextOf_list_end_hot (x1 := x1) (s := { s with heap := h₃ }) hot3 (((h2.extBut hs₁.extBut D.i2z).extBut hs₂.extBut D.i12.symm).extBut hs₃.extBut D.TOi2.symm)
      (((hl2.extBut hs₁.extBut D.l2z).extBut hs₂.extBut D.l2i1).extBut hs₃.extBut D.l2TO) hy fun h₄ e hs₄ he => ?_)
    obtain ⟨oe, hoe, hce⟩ := he
    have hz₄ : IsZip h₄ z TI TO .ellipsis := hs₄ _ _ D.i2z.symm (hs₃.extBut _ _ D.TOz.symm (hs₂.extBut _ _ D.i1z.symm hz₁))
    have hez : e ≠ z := fun x => by subst x; rw [hz₄] at hoe; cases hoe; simp at hce
    refine wpAny_setField_rec hz₄ (by simp) fun h₅ _ hs₅ => hE h₅ e (fun c o c1 c2 c3 c4 x => hs₅.extBut _ _ c1 (hs₄ _ _ c4 (hs₃.extBut _ _ c2 (hs₂.extBut _ _ c3 (hs₁.extBut _ _ c1 x))))) ⟨oe, hs₅.extBut _ _ hez hoe, hce⟩
theorem pyNext_zip_end_hot {x1 z TI TO i1 i2 l1 l2 : Addr} {k1 k2 : Nat} {xs ys : Array Value} {a b : Value} {Q : Option Value → Shared → Prop} (hot : HotAt A x1 s.heap) (D : ZipApart z TI TO i1 i2 l1 l2)
    (hz : IsZip s.heap z TI TO .none) (hTI : IsPair s.heap TI (.ref i1) (.ref i2)) (hTO : IsPair s.heap TO a b)
    (h1 : s.heap.IsListIter i1 l1 k1) (h2 : s.heap.IsListIter i2 l2 k2) (hl1 : s.heap.IsList l1 xs) (hl2 : s.heap.IsList l2 ys) (hend : xs[k1]? = none ∨ ys[k2]? = none)
    (hQ : ∀ h', (∀ c o, c ≠ z → c ≠ TO → c ≠ i1 → c ≠ i2 → s.heap.get? c = some o → h'.get? c = some o) → Q none { s with heap := h' }) : wpAny (model prog w) A (pyNext (.ref z)) Q E s := by
  have hT : s.TypeIs (.ref z) "zip" := ⟨_, hz, rfl⟩
  unfold pyNext
  refine wpAny_bind (wpAny_attempt (wpAny_callSpecial?_slot (name := Str.ofString "__next__") hT F.slot_zip_next
    (wpAny_call_entry F.slot_zip_next hT F.entry_zip_next (zip_next_end_hot (x1 := x1) hot D hz hTI hTO h1 h2 hl1 hl2 hend fun h' e hk he => ?_) (F.args_zip_next_1 _))))
  obtain ⟨o, ho, hc⟩ := he
  refine wpAny_bind (wpAny_isInstance (T := "StopIteration") (b := true) ⟨o, ho, hc⟩ isSubtype_stop ?_)
  exact wpAny_pure (hQ _ hk)
end
/-! ### rules -/
section
variable {X : Cx} {pos : Pos}
theorem pg_tupH {es : List Expr} {k : Nat} {t : TGs} {n : Nat} (hc : HotC X) (h : PGs X es t)
    (hn : (assignEach es X.env).length = n := by rfl) (hst : (assignEach es X.env).findIdx? (·.1) = none := by rfl) : PG X (.Tuple es k pos) (gTup X.K n t) := by
  refine ⟨fun pins s σ H v u Q I r hw => ?_⟩
  obtain ⟨a, xs, e1, hq, hl, hw⟩ := hw
  subst e1
  cases r
  obtain ⟨its, rv, ht, hz⟩ := I.tuple hq
  obtain ⟨x1, hot⟩ := hc.at I
  refine assign_Tuple_tuple_hot hot ht (by simp [hn, ← hl, rv.length]) hst fun h' hx => ?_
  have I1 : Inv X pins σ H { s with heap := h' } := I.kept (t' := s.toks) fun b o e => hx b o (Nat.ne_of_lt (Heap.lt_size e)) e
  exact h.run pins _ σ H xs _ Q I1 (by simpa using rv) hw
theorem turn_zipH {P : Program} {w : World} {K : PySem.W.Frag} {elts : List Expr} {kk : Nat} {tpos : Pos} {a b z TI TO i1 i2 : Addr} (D : ZipApart z TI TO i1 i2 a b) :
    TurnH P w K (.Tuple elts kk tpos) (Itz K a b) [z, TI, TO, i1, i2] z (fun i h => IsZip h z TI TO .none ∧ IsPair h TI (.ref i1) (.ref i2) ∧ (∃ x y, IsPair h TO x y) ∧ h.IsListIter i1 a i ∧ h.IsListIter i2 b i) where
  mem := by simp
  obj := (turn_zip (P := P) (w := w) (K := K) (elts := elts) (kk := kk) (tpos := tpos) D).obj
  keep := (turn_zip (P := P) (w := w) (K := K) (elts := elts) (kk := kk) (tpos := tpos) D).keep
  item := by
    intro X hP hw hK hc i pins s σ H E I hf st hg
    subst hP hw hK
    obtain ⟨hz, hTI, ⟨x0, y0, hTO⟩, h1, h2⟩ := st
    obtain ⟨xs, ys, x, y, hqx, hqy, hx, hy⟩ := hg
    obtain ⟨its, rv, p, _⟩ := I.list hqx
    obtain ⟨its2, rv2, p2, _⟩ := I.list hqy
    obtain ⟨u, hu, ru⟩ := rv.get hx
    obtain ⟨u2, hu2, ru2⟩ := rv2.get hy
    have hzl : z < s.heap.objs.size := Heap.lt_size hz
    refine wpAny_pyNext_zip_item D hz hTI hTO h1 h2 p.isList p2.isList (x := u) (y := u2) (by simpa using hu) (by simpa using hu2) fun h' z' TO' h1' h2' hT hsz hk => ?_
    refine ⟨_, rfl, wpAny_letOwnedTupleGo_zip (s := { s with heap := h' }) z' fun h'' z'' sb => ?_⟩
    have hT2 : h''.get? s.heap.objs.size = some { cls := .type "tuple", data := .seq #[u, u2] } := (sb.2 _ (Nat.ne_of_gt hzl)).trans hT
    have new : ObjOk X.prog X.w (upd H s.heap.objs.size (.tup [x, y])) h'' s.heap.objs.size (.tup [x, y]) :=
      ⟨by show 2 ≤ sizeLine; decide, [u, u2], .cons ru (.cons ru2 .nil), ⟨_, hT2, rfl, _, rfl⟩⟩
    have I1 : Inv X pins σ (upd H s.heap.objs.size (.tup [x, y])) { s with heap := h'' } :=
      I.turnedNew (t' := s.toks) (ch := [z, TI, TO, i1, i2]) (fun c o hb q => (sb.2 c (fun q' => hb (by simp [q']))).trans (hk c o (fun q' => hb (by simp [q'])) (fun q' => hb (by simp [q'])) (fun q' => hb (by simp [q'])) (fun q' => hb (by simp [q'])) q)) hf (Nat.le_refl _) new
    refine ⟨.ref s.heap.objs.size, _, I1, rfl, ⟨_, x, y, rfl, I.hok.fresh (Nat.le_refl _), rfl, fun l hl => by rw [I.list_inj hl hqx]; exact hx, fun l hl => by rw [I.list_inj hl hqy]; exact hy⟩, ⟨z'', ?_, ⟨u, u2, ?_⟩, ?_, ?_⟩, fun c hcm => ?_⟩
    · exact (sb.2 _ D.TIz).trans (hk _ _ D.TIz D.TITO D.TIi1 D.TIi2 hTI)
    · exact (sb.2 _ D.TOz).trans TO'
    · exact h1'.at fun o q => (sb.2 _ D.i1z).trans q
    · exact h2'.at fun o q => (sb.2 _ D.i2z).trans q
    · have hlt : c < s.heap.objs.size := by
        have e' : c = z ∨ c = TI ∨ c = TO ∨ c = i1 ∨ c = i2 := by simpa using hcm
        rcases e' with q | q | q | q | q
        · rw [q]; exact hzl
        · rw [q]; exact Heap.lt_size hTI
        · rw [q]; exact Heap.lt_size hTO
        · rw [q]; obtain ⟨_, e1, _⟩ := h1; exact Heap.lt_size e1
        · rw [q]; obtain ⟨_, e2, _⟩ := h2; exact Heap.lt_size e2
      rw [upd_ne (Nat.ne_of_lt hlt)]
      exact (hf c hcm).1
  done := by
    intro X hP hw hK hc i pins s σ H E I hf st hg
    subst hP hw hK
    obtain ⟨hz, hTI, ⟨x0, y0, hTO⟩, h1, h2⟩ := st
    obtain ⟨xs, ys, hqx, hqy, hend⟩ := hg
    obtain ⟨its, rv, p, _⟩ := I.list hqx
    obtain ⟨its2, rv2, p2, _⟩ := I.list hqy
    have l1 := rv.length
    have l2 := rv2.length
    have he : its.toArray[i]? = none ∨ its2.toArray[i]? = none := by
      rcases hend with q | q
      · exact .inl (by simp; omega)
      · exact .inr (by simp; omega)
    obtain ⟨x1, hot⟩ := hc.at I
    exact pyNext_zip_end_hot hot D hz hTI hTO h1 h2 p.isList p2.isList he fun h' hk => ⟨rfl, I.turnedL (t' := s.toks) (ch := [z, TI, TO, i1, i2]) (fun c o hb q =>
      hk c o (fun q' => hb (by simp [q'])) (fun q' => hb (by simp [q'])) (fun q' => hb (by simp [q'])) (fun q' => hb (by simp [q'])) q) hf⟩
  self := fun A i s Q E st h => wpAny_pyIter_zip st.1 h
theorem pi_zipH {e e2 : Expr} {ta : TA} {p tpos : Pos} {elts : List Expr} {kk : Nat} (hg : Gl X "zip") (hm : X.mg "zip" = none) (ha : PA X [e, e2] ta)
    (hs : starEach [e, e2] X.env = (false, eval e X.env) :: starEach [e2] X.env := by rfl) (hpl : (backTo pos (starEach [e2] X.env)).any (·.1) = false := by rfl) :
    PIH X (.Tuple elts kk tpos) (.Call (.Name "zip" p) [e, e2] [] pos) (iZip X.K ta) := by
  refine ⟨fun pins s σ H R I h => ?_⟩
  refine Call_ (ld_blt I hg hm PyProof.Rows.boot_zip (PyProof.Rows.callWith_type1 (thn (ha.run pos pins s σ H _ I h) fun us s1 ⟨vs, H1, I1, r1, q1⟩ => ?_) hs hpl))
  obtain ⟨a, b, xs, ys, ex, hqx, hqy, q⟩ := q1
  subst ex
  cases r1 with
  | cons r rr =>
    cases rr with
    | cons r' rr =>
      cases rr
      cases r
      cases r'
      obtain ⟨its, rv, p1, _⟩ := I1.list hqx
      obtain ⟨its2, rv2, p2, _⟩ := I1.list hqy
      refine call_zip_2 p1.isList p2.isList fun h' hz hTI hTO h1 h2 hsz hk => wpAny_pyIter_zip hz ?_
      have I2 : Inv X pins σ H1 { s1 with heap := h' } := I1.kept (t' := s1.toks) hk
      refine ⟨s1.heap.objs.size + 4, [s1.heap.objs.size + 4, s1.heap.objs.size + 2, s1.heap.objs.size + 3, s1.heap.objs.size, s1.heap.objs.size + 1], _, _, H1, rfl, I2, turn_zipH (PySem.W.ktu_apart s1.heap.objs.size a b p1.lt p2.lt), ⟨hz, hTI, ⟨_, _, hTO⟩, h1, h2⟩, fun c hcm => ?_, q⟩
      have e' : c = s1.heap.objs.size + 4 ∨ c = s1.heap.objs.size + 2 ∨ c = s1.heap.objs.size + 3 ∨ c = s1.heap.objs.size ∨ c = s1.heap.objs.size + 1 := by simpa using hcm
      have hle : s1.heap.objs.size ≤ c := by
        rcases e' with z | z | z | z | z
        · rw [z]; exact Nat.le_add_right _ _
        · rw [z]; exact Nat.le_add_right _ _
        · rw [z]; exact Nat.le_add_right _ _
        · rw [z]; exact Nat.le_refl _
        · rw [z]; exact Nat.le_add_right _ _
      exact I1.fpOk hle (I1.hok.fresh hle)
/-- isinstance(e, c), e the exception that is pinned -/
theorem call_isP {a D : Addr} {oe : Obj} (C : ExcC X.K D) (hz : Zc (.ref D) none oe) (hf : ∃ vs, oe.data = .fields vs) (hp : (a, oe) ∈ X.pn) : CallR X (.builtin "isinstance") (rIsE X.K D a) := by
  intro pins s σ H xs us Q I r h
  obtain ⟨c, cv, b, rfl, hcv, e, q⟩ := h
  cases r with
  | cons rx rr =>
    cases rr with
    | cons rt rr =>
      cases rr
      cases rx
      have ec := hcv _ rt
      subst ec
      obtain ⟨hget, _⟩ := I.pin (a, oe) (List.mem_append.mpr (.inl hp))
      obtain ⟨vs, hv⟩ := hf
      have J : PySem.W.InstAt s.heap a oe D none := by
        obtain ⟨oc, od, oda, osl⟩ := oe
        obtain ⟨h1, h2⟩ := hz
        dsimp only at h1 h2 hv
        subst h1 h2 hv
        exact ⟨hget, rfl, rfl, trivial⟩
      exact PySem.W.kia_one (PySem.W.handS_kitx_exc C.hg C.hk C.hs C.hd C.ha C.hn C.ht C.hm) I.kIn J e (fun z => nomatch z) fun tk => ⟨.bl b, H, I.kept (t' := tk) fun _ _ z => z, rfl, q⟩
end
/-! ### comprehensions -/
abbrev blkH (X : Cx) (p : Addr × Obj) (s : Shared) (H : Hp) (scope : Scope) (cenv : Env) (fp : List Addr) : Cx := (X.blk s H scope cenv fp).tr [p] (fun _ _ => False)
section
variable {X : Cx} {pos : Pos}
theorem block_startH {pins : List (Addr × Obj)} {σ : L2.St} {H : Hp} {s : Shared} {scope : Scope} {own : List (Str × Nat)} {fp : List Addr} {p0 : Addr × Obj} (hot : Hot1 X.A p0) (hp0 : p0 ∈ X.pn) (I : Inv X pins σ H s) (ok : BlkOk X.N X.env.scope scope own) (hN : X.N.Nodup) (hfp : ∀ b ∈ fp, FpOk X pins H b ∧ b < s.heap.objs.size) :
    Inv (blkH X p0 s H scope (compEnvC scope (cellsFrom (s.heap.objs.size + 1) scope.names (cloFrom X.env.cells scope.names [])) s.heap.objs.size X.env) fp) [] (wipe σ (own.map (·.2))) H { s with heap := pushCells (s.heap.push { cls := .type "dict", data := .dict #[] }) scope.names } := by
  have J := block_start I ok hN hfp
  have P0 := I.pin p0 (List.mem_append_left _ hp0)
  refine ⟨J.ok.toTry _ _, J.os, J.bare, J.base, J.loc, J.cell, J.free, J.freeC, fun p hp => ?_, J.hok, J.len⟩
  have e : p = p0 := by simpa using (show p ∈ [p0] ++ ([] : List (Addr × Obj)) from hp)
  rw [e]
  refine ⟨pushCells_keeps _ _ _ _ (Heap.get?_push_of_some _ P0.1), P0.2.1, Nat.ne_of_lt (Heap.lt_size P0.1), fun hm => ?_, P0.2.2.2.2⟩
  exact (List.mem_cons.mp (I.stkSub p0.1 hm)).elim P0.2.2.1 P0.2.2.2.1
theorem lc_coreH {pins : List (Addr × Obj)} {s : Shared} {σ : L2.St} {H : Hp} {Q : VK} {elt tg iter : Expr} {ifs : List Expr} {scope : Scope} {own : List (Str × Nat)} {pos pos' : Pos} {wi : TI} {g : TG} {tt : TT} {te : TE} {use : Option (Value → Sem Unit)} {Qf : Value → Shared → Prop}
    {p0 : Addr × Obj} (hot : Hot1 X.A p0) (hp0 : p0 ∈ X.pn) (hN : X.N.Nodup) (I : Inv X pins σ H s) (hi : PIH X tg iter wi) (ok : BlkOk X.N X.env.scope scope own)
    (hg : ∀ (s : Shared) (H : Hp) (C : Addr) (cl : List (Str × Addr)) (fp : List Addr), PG (blkH X p0 s H scope (compEnvC scope cl C X.env) fp) tg g) (ht : ∀ (s : Shared) (H : Hp) (C : Addr) (cl : List (Str × Addr)) (fp : List Addr), PTs (blkH X p0 s H scope (compEnvC scope cl C X.env) fp) ifs tt)
    (he : ∀ (s : Shared) (H : Hp) (C : Addr) (cl : List (Str × Addr)) (fp : List Addr), PE (blkH X p0 s H scope (compEnvC scope cl C X.env) fp) elt te) (hs : ∀ x, foldedSetIterable iter X.env x = pure x)
    (h : tLc wi g tt te (own.map (·.2)) σ H Q)
    (hRR : ∀ D C s' m H', Inv X pins σ H' s' → Q (.ref D) H' → s'.heap.Ns C m → FpOk X pins H' C → compPost (model X.prog X.w) X.A X.xe use Qf (.ref D) C (.ok .next) s') :
    wpAny (model X.prog X.w) X.A (comprehension (.ListComp elt [⟨tg, iter, ifs, 0⟩] scope pos) scope X.env pos' (newList []) false (eval iter X.env) use) Qf X.xe s := by
  have hfree : ∀ y ∈ scope.names, y.2 = .free → ∃ c, X.env.cells.lookup y.1 = some c := fun y hy e => by
    rcases ok.free y hy e with k | k
    · exact I.ok.has _ (.inl k)
    · exact I.ok.has _ (.inr k)
  refine wpAny_comprehension_free (use := use) rfl hs (closure_ok hfree) ok.kind (fun y hy e => by rw [ok.uniq y hy, e])
    (thn (hi.run pins s σ H _ I h) fun xv s1 hx => thn hx fun itv s2 h2 => ?_)
  obtain ⟨it, fp, tn, J, H2, e, I2, T, st2, f2, q⟩ := h2
  subst e
  refine wpAny_newObj_type (newEnv_comp ?_) (by show 0 ≤ sizeLine; decide)
  generalize hD : s2.heap.objs.size = D
  have hDn : H2 D = none := I2.hok.fresh (Nat.le_of_eq hD)
  obtain ⟨W, ⟨m0, w0⟩, turn⟩ := q D hDn
  -- the new list
  generalize hs3 : ({ s2 with heap := s2.heap.push { cls := .type "list", data := .seq ([] : List Value).toArray } } : Shared) = s3
  have I3 : Inv X pins σ (upd H2 D (.lst [])) s3 := by
    rw [← hs3]
    refine I2.laid (t' := s2.toks) (fun b o e => Heap.get?_push_of_some _ e) (Nat.le_of_eq hD) ⟨Nat.zero_le _, [], 0, .nil, ?_⟩
    rw [← hD]
    exact Heap.get?_push_size _ rfl
  have h3 : s3.heap = s2.heap.push { cls := .type "list", data := .seq ([] : List Value).toArray } := by rw [← hs3]
  have sz : ∀ b ∈ fp, b < s2.heap.objs.size := fun b hb => by
    obtain ⟨o, e, _⟩ := T.obj _ _ st2 b hb
    exact Heap.lt_size e
  have f3 : ∀ b ∈ fp, FpOk X pins (upd H2 D (.lst [])) b ∧ b < s3.heap.objs.size := fun b hb => by
    have hlt := sz b hb
    refine ⟨⟨?_, (f2 b hb).2⟩, by rw [h3, Heap.size_push]; exact Nat.lt_succ_of_lt hlt⟩
    rw [upd_ne (by rw [← hD]; exact Nat.ne_of_lt hlt)]
    exact (f2 b hb).1
  have st3 : tn 0 s3.heap := T.keep _ _ _ st2 fun b _ o e => by rw [h3]; exact Heap.get?_push_of_some _ e
  have I4 := block_startH hot hp0 I3 ok hN f3
  have pg := hg s3 (upd H2 D (.lst [])) s3.heap.objs.size (cellsFrom (s3.heap.objs.size + 1) scope.names (cloFrom X.env.cells scope.names [])) fp
  have pt := ht s3 (upd H2 D (.lst [])) s3.heap.objs.size (cellsFrom (s3.heap.objs.size + 1) scope.names (cloFrom X.env.cells scope.names [])) fp
  have pe := he s3 (upd H2 D (.lst [])) s3.heap.objs.size (cellsFrom (s3.heap.objs.size + 1) scope.names (cloFrom X.env.cells scope.names [])) fp
  show codeAny _ _ (.compStart (.ListComp elt [⟨tg, iter, ifs, 0⟩] scope pos) 0 (.ref it) (.ref D) (compEnvC scope (cellsFrom (s3.heap.objs.size + 1) scope.names (cloFrom X.env.cells scope.names [])) s3.heap.objs.size X.env)) (compPost (model X.prog X.w) X.A X.xe use Qf (.ref D) s3.heap.objs.size) { s3 with heap := pushCells (s3.heap.push { cls := .type "dict", data := .dict #[] }) scope.names }
  have nfp : ∀ b ∈ fp, (upd H2 D (.lst [])) b = none := fun b hb => (f3 b hb).1.1
  generalize hce : compEnvC scope (cellsFrom (s3.heap.objs.size + 1) scope.names (cloFrom X.env.cells scope.names [])) s3.heap.objs.size X.env = ce at I4 pg pt pe ⊢
  have cL : ce.locals = s3.heap.objs.size := by subst hce; rfl
  generalize hH3 : upd H2 D (.lst []) = H3 at I3 I4 pg pt pe w0 nfp f3
  generalize hs4 : ({ s3 with heap := pushCells (s3.heap.push { cls := .type "dict", data := .dict #[] }) scope.names } : Shared) = s4 at I4 ⊢
  have st4 : tn 0 s4.heap := T.keep _ _ _ st3 fun b _ o e => by rw [← hs4]; exact pushCells_keeps _ _ _ _ (Heap.get?_push_of_some _ e)
  have stat : ∀ {σ' : L2.St} {H' : Hp} {s' : Shared}, Inv (blkH X p0 s3 H3 scope ce fp) [] σ' H' s' → (∀ b ∈ fp, H' b = none) → ∀ b ∈ fp, FpOk (blkH X p0 s3 H3 scope ce fp) [] H' b := fun {σ' H' s'} I' hn b hb =>
    ⟨hn b hb, (I'.ok.exf b hb).1, I'.ok.exfs b hb, .inl hb, fun x c e => (I'.ok.exf b hb).2 x c e, fun p hp => by
      have e : p = p0 := by simpa using (show p ∈ [p0] ++ ([] : List (Addr × Obj)) from hp)
      rw [e]
      exact (f2 b hb).2.2.2.2.2 p0 (List.mem_append_left _ hp0)⟩
  have hcB : HotC (blkH X p0 s3 H3 scope ce fp) := ⟨p0, hot, List.mem_singleton.mpr rfl⟩
  have loop : codeAny (model X.prog X.w) X.A (.compLoop (.ListComp elt [⟨tg, iter, ifs, 0⟩] scope pos) 0 (.ref it) (.ref D) ce) (compPost (model X.prog X.w) X.A X.xe use Qf (.ref D) s3.heap.objs.size) s4 := by
    refine compLoop_any (fun n s' => ∃ i H', Inv (blkH X p0 s3 H3 scope ce fp) [] (wipe σ (own.map (·.2))) H' s' ∧ tn i s'.heap ∧ (∀ b ∈ fp, H' b = none) ∧ W i n H') ?_ m0 ⟨0, H3, I4, st4, nfp, w0⟩
    rintro n s5 ⟨i, H5, I5, st5, n5, w5⟩
    rcases turn i n H5 w5 with ⟨stop, qq⟩ | ⟨go, Nx, hNx, step⟩
    · have td := T.done (blkH X p0 s3 H3 scope ce fp) rfl rfl rfl hcB i [] s5 _ H5 (fun _ _ => False) I5 (stat I5 n5) st5 stop
      refine thnF td fun r s6 ⟨hr, I6⟩ => ?_
      subst hr
      -- back in the def's context
      have I7 : Inv X pins σ H5 s6 := I3.call' (ch := fp) I6.os I6.base I6.hok I6.bare fun b hb => ⟨(f3 b hb).1.2.2.2.1, (f3 b hb).1.2.1, (f3 b hb).1.2.2.2.2.1, (f3 b hb).1.2.2.2.2.2⟩
      have nC : H5 s3.heap.objs.size = none := by
        have z : H5 ce.locals = none := I6.free
        rw [cL] at z
        exact z
      obtain ⟨m, hn, _⟩ := I6.loc
      have hn : s6.heap.Ns ce.locals m := hn
      rw [cL] at hn
      exact hRR D s3.heap.objs.size s6 m H5 I7 qq hn (I3.fpOk (Nat.le_refl _) nC)
    · have ti := T.item (blkH X p0 s3 H3 scope ce fp) rfl rfl rfl hcB i [] s5 _ H5 (fun _ _ => False) I5 (stat I5 n5) st5 go
      refine thnF ti fun r s6 ⟨u, hr, h6⟩ => ?_
      subst hr
      refine thnF h6 fun _ s7 ⟨x, H7, I7, r7, y7, st7, n7⟩ => ?_
      have I7' := I7.pinned (stat I7 n7) (T.obj _ _ st7)
      refine thnF (pg.run _ s7 _ H7 x u _ I7' r7 (step x H7 y7)) fun _ s8 ⟨σ8, H8, I8, hw8, q8⟩ => ?_
      refine thnF (pt.run _ s8 σ8 H8 _ I8 q8) fun b s9 ⟨H9, I9, q9⟩ => ?_
      -- the turn's end
      have fin : ∀ {s' : Shared} {H' : Hp}, Inv (blkH X p0 s3 H3 scope ce fp) ([] ++ pinsAt fp s7.heap) σ8 H' s' → Nx H' → ∃ m, m < n ∧ ∃ i H', Inv (blkH X p0 s3 H3 scope ce fp) [] (wipe σ (own.map (·.2))) H' s' ∧ tn i s'.heap ∧ (∀ b ∈ fp, H' b = none) ∧ W i m H' := fun {s' H'} I' nx => by
        obtain ⟨m', hm, w'⟩ := hNx H' nx
        have pin' : ∀ b ∈ fp, ∀ o, s7.heap.get? b = some o → s'.heap.get? b = some o ∧ H' b = none := fun b hb o e =>
          let z := I'.pin (b, o) (List.mem_append_right _ (List.mem_append_right _ (mem_pinsAt hb e)))
          ⟨z.1, z.2.1⟩
        have hl : (wipe σ (own.map (·.2))).length = σ8.length := by rw [← hw8, wipe_length]
        refine ⟨m', hm, i + 1, H', (I'.unpinned (pins := [])).weak hl (fun j v e => ?_), T.keep _ _ _ st7 fun b hb o e => (pin' b hb o e).1, fun b hb => ?_, w'⟩
        · rw [← hw8] at e
          exact (wipe_some e).1
        · obtain ⟨o, e, _⟩ := T.obj _ _ st7 b hb
          exact (pin' b hb o e).2
      cases b with
      | false =>
        simp only [Bool.false_eq_true, if_false] at q9 ⊢
        exact fin I9 q9
      | true =>
        simp only [if_true] at q9 ⊢
        refine thnF (pe.run _ s9 σ8 H9 _ I9 q9) fun z s10 ⟨yv, H10, I10, r10, acc, hD10, hz10, nx⟩ => ?_
        exact app_ok (X := blkH X p0 s3 H3 scope ce fp) I10 hD10 hz10 r10 fun s11 I11 => fin I11 nx
  exact codeAny_compStart_list loop (T.self X.A 0 _ _ _ st4 loop)
theorem pe_lcH {elt tg iter : Expr} {ifs : List Expr} {scope : Scope} {own : List (Str × Nat)} {pos : Pos} {wi : TI} {g : TG} {tt : TT} {te : TE} {p0 : Addr × Obj} (hot : Hot1 X.A p0) (hp0 : p0 ∈ X.pn) (hN : X.N.Nodup) (hi : PIH X tg iter wi) (ok : BlkOk X.N X.env.scope scope own)
    (hg : ∀ (s : Shared) (H : Hp) (C : Addr) (cl : List (Str × Addr)) (fp : List Addr), PG (blkH X p0 s H scope (compEnvC scope cl C X.env) fp) tg g) (ht : ∀ (s : Shared) (H : Hp) (C : Addr) (cl : List (Str × Addr)) (fp : List Addr), PTs (blkH X p0 s H scope (compEnvC scope cl C X.env) fp) ifs tt)
    (he : ∀ (s : Shared) (H : Hp) (C : Addr) (cl : List (Str × Addr)) (fp : List Addr), PE (blkH X p0 s H scope (compEnvC scope cl C X.env) fp) elt te) (hs : ∀ x, foldedSetIterable iter X.env x = pure x := by intro _; rfl) :
    PE X (.ListComp elt [⟨tg, iter, ifs, 0⟩] scope pos) (tLc wi g tt te (own.map (·.2))) := by
  refine ⟨fun pins s σ H Q I h => ?_⟩
  rw [eval_ListComp]
  refine lc_coreH hot hp0 hN I hi ok hg ht he hs h fun D C s' m H' I' q hn f => ⟨m, hn, fun h'' sb => ?_⟩
  obtain ⟨f0, f1, f2, f3, f4, f5⟩ := f
  exact ⟨.ref D, H', I'.turned (t' := s'.toks) (fun b o hb e => (sb.2 b hb).trans e) f0 f1 f3 f4 f5, rfl, q⟩end
end HotY

set_option Elab.async false
set_option linter.all false
set_option maxRecDepth 100000
set_option maxHeartbeats 2000000
/-! Methods of texts, zip. -/
namespace L3
open PySem PySem.Spec PyProof.Rows L2 Mi
section
variable {C : Cv} {E : XK} {H : Hp} {α : Al} {μ : Sto}
theorem RpAll.strs {K : PySem.W.Frag} {M : Addr → Prop} : ∀ {vs : List V} {ds : List D} {ys : List Str}, RpAll K H M vs ds → strsOf ds = some ys → vs = ys.map V.str
  | _, _, _, .nil, e => by cases e; rfl
  | _, .str b :: ds, ys, .cons r t, e => by
    unfold strsOf at e
    cases e1 : strsOf ds with
    | none => rw [e1] at e; cases e
    | some k' =>
      rw [e1] at e
      cases e
      cases r
      rw [RpAll.strs t e1]
      rfl
  | _, .none :: ds, _, .cons r t, e => by cases e
  | _, .bool _ :: ds, _, .cons r t, e => by cases e
  | _, .int _ :: ds, _, .cons r t, e => by cases e
  | _, .list _ :: ds, _, .cons r t, e => by cases e
  | _, .tuple _ :: ds, _, .cons r t, e => by cases e
  | _, .dict _ :: ds, _, .cons r t, e => by cases e
theorem rpAll_strs {K : PySem.W.Frag} {M : Addr → Prop} : ∀ ys : List Str, RpAll K H M (ys.map V.str) (ys.map PyData.str)
  | [] => .nil
  | y :: ys => .cons (.str y) (rpAll_strs ys)
/-- what a method of a text asks -/
def MeS (C : Cv) (op : Str → D → Option D) (r : V → List V → Hp → VK → Prop) : Prop := ∀ H α μ a y d z Q, Stor C H α μ → RpT C.K H (Own α μ) y d → op a d = some z → (∀ v H', Same H H' → Rp C.K H' (Own α μ) v z → Q v H') → r (.str a) [y] H Q
def MeS0 (C : Cv) (op : Str → Option D) (r : V → List V → Hp → VK → Prop) : Prop := ∀ H α μ a z Q, Stor C H α μ → op a = some z → (∀ v H', Same H H' → Rp C.K H' (Own α μ) v z → Q v H') → r (.str a) [] H Q
theorem m1_rd {op : Str → D → Option D} {r : V → List V → Hp → VK → Prop} {f g : EF} {σ : L2.St} {Q : VK} (hs : MeS C op r) (q : tD C E (eM1 op f g) σ H Q) : tM1 r (tD C E f) (tD C E g) σ H Q := by
  obtain ⟨ρ, α, μ, S, sl, q⟩ := q
  refine tD_bind S sl q fun v w H1 α1 μ1 st1 S1 sl1 r1 q1 => ?_
  split at q1
  · rename_i a
    cases r1
    refine ⟨⟨a, rfl⟩, tD_bind S1 sl1 q1 fun u w2 H2 α2 μ2 st2 S2 sl2 r2 q2 => ?_⟩
    obtain ⟨z, e, q3⟩ := PQ.ofO q2
    cases e1 : view μ2 w2 with
    | none => rw [e1] at e; cases e
    | some d =>
      simp only [e1, Option.bind_some] at e
      cases e2 : op a d with
      | none => rw [e2] at e; cases e
      | some d2 =>
        rw [e2] at e
        cases e
        exact hs H2 α2 μ2 a u d d2 Q S2 (r2.view S2 e1) e2 fun v H' sm rv => q3 v H' α2 (Same.step S2 sm) (S2.same sm) rv
  · exact (show False from q1).elim
theorem m0_rd {op : Str → Option D} {r : V → List V → Hp → VK → Prop} {f : EF} {σ : L2.St} {Q : VK} (hs : MeS0 C op r) (q : tD C E (eM0 op f) σ H Q) : tM0 r (tD C E f) σ H Q := by
  obtain ⟨ρ, α, μ, S, sl, q⟩ := q
  refine tD_bind S sl q fun v w H1 α1 μ1 st1 S1 sl1 r1 q1 => ?_
  split at q1
  · rename_i a
    cases r1
    refine ⟨⟨a, rfl⟩, ?_⟩
    obtain ⟨z, e, q3⟩ := PQ.ofO q1
    cases e2 : op a with
    | none => rw [e2] at e; cases e
    | some d2 =>
      rw [e2] at e
      cases e
      exact hs H1 α1 μ1 a d2 Q S1 e2 fun v H' sm rv => q3 v H' α1 (Same.step S1 sm) (S1.same sm) rv
  · exact (show False from q1).elim
theorem ms_new {ys : List Str} {Q : VK} (S : Stor C H α μ) (q : ∀ v H', Same H H' → Rp C.K H' (Own α μ) v (.list (ys.map PyData.str)) → Q v H') : rNewStrs ys H Q := fun p np => by
  obtain ⟨sm, rp⟩ := rp_newL S np (rpAll_strs ys)
  exact q _ _ sm rp
theorem ms_upper : MeS0 C mUpper (fun x xs H Q => ∃ a, x = .str a ∧ xs = [] ∧ a.length ≤ 5592405 ∧ Q (.str (Txt.upper a)) H) := by
  intro H α μ a z Q S e q
  unfold mUpper at e
  split at e
  · rename_i hl
    cases e
    exact ⟨a, rfl, rfl, Nat.le_trans hl (by decide), q _ H (.refl H) (.str _)⟩
  · cases e
theorem ms_split : MeS C mSplit (fun x xs H Q => ∃ a b, x = .str a ∧ xs = [.str b] ∧ (b.length == 0) = false ∧ a.length + 2 ≤ sizeLine ∧ rNewStrs (Txt.split a b) H Q) := by
  intro H α μ a y d z Q S r e q
  unfold mSplit at e
  split at e
  · rename_i b
    split at e
    · rename_i hh
      cases e
      have hy := r.str
      subst hy
      exact ⟨a, b, rfl, rfl, by simpa using hh.1, Nat.le_trans (Nat.add_le_add_right hh.2 2) (by decide), ms_new S q⟩
    · cases e
  · cases e
theorem ms_join : MeS C mJoin (fun x xs H Q => ∃ a p, ∃ ys : List Str, x = .str a ∧ xs = [.ref p] ∧ (SqL C.K H p (ys.map V.str) ∨ SqT C.K H p (ys.map V.str)) ∧
    (ys.map (·.length)).sum + ys.length * a.length ≤ 16777216 ∧ Q (.str (Txt.join a ys)) H) := by
  intro H α μ a y d z Q S r e q
  unfold mJoin at e
  split at e
  · rename_i l
    cases e1 : strsOf l with
    | none => rw [e1] at e; cases e
    | some ys =>
      rw [e1] at e
      simp only [Option.bind_some] at e
      split at e
      · rename_i hj
        cases e
        obtain ⟨p1, xs, rfl, h1, r1⟩ := r.list
        have hx := r1.strs e1
        subst hx
        exact ⟨a, p1, ys, rfl, rfl, .inl (.inl h1), Nat.le_trans hj (by decide), q _ H (.refl H) (.str _)⟩
      · cases e
  · rename_i l
    cases e1 : strsOf l with
    | none => rw [e1] at e; cases e
    | some ys =>
      rw [e1] at e
      simp only [Option.bind_some] at e
      split at e
      · rename_i hj
        cases e
        obtain ⟨p1, xs, rfl, h1, r1⟩ := r.tuple
        have hx := r1.strs e1
        subst hx
        exact ⟨a, p1, ys, rfl, rfl, .inr h1, Nat.le_trans hj (by decide), q _ H (.refl H) (.str _)⟩
      · cases e
  · cases e
end
section
variable {X : Cx} {T : List (Addr × Str)} {E : XK} {j : Nat} {pos apos : Pos} {tg a b c : Expr} {f g h : EF}
theorem de_m1 {id : String} {name : Str} {op : Str → D → Option D} {r : V → List V → Hp → VK → Prop} (slot : Slot "str" name id) (ty : typeOf (.builtin id) = pure (.type "method_descriptor")) (rule : MtR X id r) (hm : MeS (CvX X T) op r) (ha : DE X T E a f) (hb : DE X T E b g)
    (hs : starEach [b] X.env = [(false, eval b X.env)] := by rfl) (hbase : attributeBase a name X.env (eval a X.env) = eval a X.env := by rfl) (hline : (apos.endLine == pos.line) = true := by rfl) : DE X T E (.Call (.Attribute a name apos) [b] [] pos) (eM1 op f g) :=
  pe_imp (pe_m1 slot ty rule ha hb hs hbase hline) fun σ H Q q => m1_rd hm q
theorem de_m0 {id : String} {name : Str} {op : Str → Option D} {r : V → List V → Hp → VK → Prop} (slot : Slot "str" name id) (ty : typeOf (.builtin id) = pure (.type "method_descriptor")) (rule : MtR X id r) (hm : MeS0 (CvX X T) op r) (ha : DE X T E a f)
    (hbase : attributeBase a name X.env (eval a X.env) = eval a X.env := by rfl) (hline : (apos.endLine == pos.line) = true := by rfl) : DE X T E (.Call (.Attribute a name apos) [] [] pos) (eM0 op f) :=
  pe_imp (pe_m0 slot ty rule ha hbase hline) fun σ H Q q => m0_rd hm q
theorem de_split (ha : DE X T E a f) (hb : DE X T E b g) (hs : starEach [b] X.env = [(false, eval b X.env)] := by rfl) (hbase : attributeBase a "split" X.env (eval a X.env) = eval a X.env := by rfl) (hline : (apos.endLine == pos.line) = true := by rfl) :
    DE X T E (.Call (.Attribute a "split" apos) [b] [] pos) (eM1 mSplit f g) := de_m1 PySem.F.slot_str_split PySem.F.type_str_split mt_split ms_split ha hb hs hbase hline
theorem de_upper (ha : DE X T E a f) (hbase : attributeBase a "upper" X.env (eval a X.env) = eval a X.env := by rfl) (hline : (apos.endLine == pos.line) = true := by rfl) :
    DE X T E (.Call (.Attribute a "upper" apos) [] [] pos) (eM0 mUpper f) := de_m0 PySem.F.slot_str_upper PySem.F.type_str_upper mt_upper ms_upper ha hbase hline
theorem de_join (ha : DE X T E a f) (hb : DE X T E b g) (hs : starEach [b] X.env = [(false, eval b X.env)] := by rfl) (hbase : attributeBase a "join" X.env (eval a X.env) = eval a X.env := by rfl) (hline : (apos.endLine == pos.line) = true := by rfl) :
    DE X T E (.Call (.Attribute a "join" apos) [b] [] pos) (eM1 mJoin f g) := de_m1 PySem.F.slot_str_join PySem.F.type_str_join mt_join ms_join ha hb hs hbase hline
end
/-! ### zip -/
theorem zip_at {l r : List D} {i : Nat} {d : D} (h : ((l.zip r).map fun p => PyData.tuple [p.1, p.2])[i]? = some d) : ∃ x y, l[i]? = some x ∧ r[i]? = some y ∧ d = .tuple [x, y] := by
  rw [List.getElem?_map] at h
  cases e : (l.zip r)[i]? with
  | none => rw [e] at h; cases h
  | some p =>
    rw [e] at h
    cases h
    obtain ⟨h1, h2⟩ := List.getElem?_zip_eq_some.mp (show (l.zip r)[i]? = some (p.1, p.2) from e)
    exact ⟨p.1, p.2, h1, h2, rfl⟩
theorem yields_zip {C : Cv} {H : Hp} {M : Addr → Prop} {a b : Addr} {xs ys : List V} {l r : List D} (hx : Rd H a (.lst xs)) (nx : ¬ M a) (rx : RpAll C.K H M xs l) (hy : Rd H b (.lst ys)) (ny : ¬ M b) (ry : RpAll C.K H M ys r) :
    Yields C (Itz C.K a b) ((l.zip r).map fun p => .tuple [p.1, p.2]) H M := by
  intro i H2 M2 st fr
  have h2 : SqL C.K H2 a xs := .inl (st.rd hx nx).1
  have h3 : SqL C.K H2 b ys := .inl (st.rd hy ny).1
  have r2 := rx.ext st
  have r3 := ry.ext st
  refine ⟨fun d e => ?_, fun h => ⟨xs, ys, h2, h3, ?_⟩⟩
  · obtain ⟨x, y, e1, e2, rfl⟩ := zip_at e
    obtain ⟨v, h4, h5⟩ := r2.get e1
    obtain ⟨u, h6, h7⟩ := r3.get e2
    refine ⟨⟨xs, ys, v, u, h2, h3, h4, h6⟩, fun z H' yy => ?_⟩
    obtain ⟨T, x', y', rfl, nT, rfl, g1, g2⟩ := yy
    have e3 := g1 xs h2
    have e4 := g2 ys h3
    rw [h4] at e3; cases e3
    rw [h6] at e4; cases e4
    exact rp_newT nT (.cons h5 (.cons h7 .nil))
  · rw [r2.length, r3.length]
    rw [List.length_map, List.length_zip] at h
    omega
def DIH (X : Cx) (T : List (Addr × Str)) (E : XK) (tg e : Expr) (it : IF) : Prop := L2H.PIH X tg e (tI (CvX X T) E it)
section
variable {X : Cx} {T : List (Addr × Str)} {E : XK} {j : Nat} {pos : Pos} {tg a b c : Expr} {f g h : EF}
theorem zip_rd {σ : L2.St} {H : Hp} {R' : It → Hp → Prop} (q : tI (CvX X T) E (iZipD f g) σ H R') : iZip X.K (tCons (tD (CvX X T) E f) (tCons (tD (CvX X T) E g) tNil)) σ H R' := by
  obtain ⟨ρ, α, μ, S, sl, q⟩ := q
  refine tD_bindI S sl q fun v w H1 α1 μ1 st1 S1 sl1 r1 q1 => ?_
  refine tD_bindI S1 sl1 q1 fun u w2 H2 α2 μ2 st2 S2 sl2 r2 q2 => ?_
  split at q2
  · rename_i l0 μ0 e0
    split at e0
    · rename_i l r
      split at e0
      · rename_i hl
        cases e0
        have r1' := r1.step st2
        cases r1' with
        | lst h1 n1 rr1 =>
          cases r2 with
          | lst h2 n2 rr2 =>
            refine ⟨_, _, _, _, rfl, .inl h1, .inl h2, q2 _ H2 α2 (.refl _ _ _) S2 ?_ (yields_zip h1 n1 rr1 h2 n2 rr2)⟩
            rw [List.length_map, List.length_zip]
            exact Nat.le_trans (Nat.min_le_left _ _) (Nat.le_trans hl (by decide))
      · cases e0
    · cases e0
  · rename_i x0 μ0 e0
    split at e0
    · split at e0 <;> cases e0
    · cases e0
  · exact q2.elim
theorem di_zip {p tpos : Pos} {elts : List Expr} {kk : Nat} (ha : DE X T E a f) (hb : DE X T E b g) (hm : X.mg "zip" = none) (hg : Gl X "zip" := by rfl)
    (hs : starEach [a, b] X.env = (false, eval a X.env) :: starEach [b] X.env := by rfl) (hs2 : starEach [b] X.env = (false, eval b X.env) :: starEach [] X.env := by rfl) (hpl : (backTo pos (starEach [b] X.env)).any (·.1) = false := by rfl) :
    DI X T E (.Tuple elts kk tpos) (.Call (.Name "zip" p) [a, b] [] pos) (iZipD f g) :=
  pi_imp (pi_zip hg hm (pa_cons ha (pa_cons hb pa_nil hs2) hs) hs hpl) fun σ H R' q => zip_rd q
theorem di_zipH {p tpos : Pos} {elts : List Expr} {kk : Nat} (ha : DE X T E a f) (hb : DE X T E b g) (hm : X.mg "zip" = none) (hg : Gl X "zip" := by rfl)
    (hs : starEach [a, b] X.env = (false, eval a X.env) :: starEach [b] X.env := by rfl) (hs2 : starEach [b] X.env = (false, eval b X.env) :: starEach [] X.env := by rfl) (hpl : (backTo pos (starEach [b] X.env)).any (·.1) = false := by rfl) :
    DIH X T E (.Tuple elts kk tpos) (.Call (.Name "zip" p) [a, b] [] pos) (iZipD f g) :=
  ⟨fun pins s σ H R' I q => (HotY.pi_zipH hg hm (pa_cons ha (pa_cons hb pa_nil hs2) hs) hs hpl).run pins s σ H R' I (zip_rd q)⟩
/-! ### while an exception is handled -/
theorem dg_tupH {ts : List TF} {es : List Expr} {k : Nat} {ks : List Nat} (hc : L2H.HotC X) (h : DGs X T es ts ks) (hn : (assignEach es X.env).length = es.length := by rfl) (hst : (assignEach es X.env).findIdx? (·.1) = none := by rfl) : DG X T (.Tuple es k pos) (Mi.tTup ts) ks :=
  pg_imp (HotY.pg_tupH hc h.pgs hn hst) fun v σ H Q ⟨ρ, α, μ, d, ρ1, S, sl, r, e, q⟩ => by
    unfold Mi.tTup at e
    split at e
    · rename_i ds
      obtain ⟨p1, ys, rfl, h1, r1⟩ := RpT.tuple (.inl r)
      exact ⟨p1, ys, rfl, h1, by rw [r1.length, h.len, tTups_len e], ρ, α, μ, ds, ρ1, S, sl, r1, e, q⟩
    · cases e
theorem de_lcH {it : IF} {t : TF} {ks : List Nat} {elt iter : Expr} {ifs : List Expr} {scope : Scope} {own : List (Str × Nat)} {p0 : Addr × Obj} (hot : L2H.Hot1 X.A p0) (hp0 : p0 ∈ X.pn) (nd : X.N.Nodup) (hi : DIH X T E tg iter it) (ok : BlkOk X.N X.env.scope scope own)
    (hg : ∀ (s : Shared) (H : Hp) (D : Addr) (cl : List (Str × Addr)) (fp : List Addr), DG (HotY.blkH X p0 s H scope (compEnvC scope cl D X.env) fp) T tg t ks)
    (ht : ∀ (s : Shared) (H : Hp) (D : Addr) (cl : List (Str × Addr)) (fp : List Addr), DC (HotY.blkH X p0 s H scope (compEnvC scope cl D X.env) fp) T ifs f)
    (he : ∀ (s : Shared) (H : Hp) (D : Addr) (cl : List (Str × Addr)) (fp : List Addr), DE (HotY.blkH X p0 s H scope (compEnvC scope cl D X.env) fp) T E0 elt g)
    (hw : ∀ k ∈ ks, k ∈ own.map (·.2) := by decide) (hs : ∀ x, foldedSetIterable iter X.env x = pure x := by intro _; rfl) :
    DE X T E (.ListComp elt [⟨tg, iter, ifs, 0⟩] scope pos) (eLc (own.map (·.2)) t it f g) :=
  pe_imp (HotY.pe_lcH (g := tG (CvX X T) t ks) (tt := fun σ H Q => tD (CvX X T) E0 f σ H fun v H1 => ∃ b, v = .bl b ∧ Q b H1) (te := tD (CvX X T) E0 g) hot hp0 nd hi ok hg (fun s H D cl fp => (ht s H D cl fp).pts) (fun s H D cl fp => he s H D cl fp) hs) fun σ H Q q => lc_rd hw q
/-- isinstance of the error that is pinned -/
theorem de_isX {x y : Str} {p p2 : Pos} {a0 D : Addr} {oe : Obj} {bb : Bool} {c : V} {cv : Value} (C : ExcC X.K D) (hz : Zc (.ref D) none oe) (hfl : ∃ vs, oe.data = .fields vs) (hp : (a0, oe) ∈ X.pn) (hm : X.mg x = none) (hv : bootBuiltins x = some (.builtin "isinstance"))
    (hc : PE X (.Name y p2) (tC c)) (hcv : ∀ u, RelV c u → u = cv) (hb : PySem.W.kitOne X.K (.ref D) cv = some bb) (ha : DE X T E a f)
    (hg : Gl X x := by rfl) (hn : x ≠ "__name__" := by decide) (hdb : (x == ("__debug__" : Str)) = false := by decide)
    (he : starEach (a :: [.Name y p2]) X.env = (false, eval a X.env) :: starEach [.Name y p2] X.env := by rfl) (hpl : (backTo pos (starEach [.Name y p2] X.env)).any (·.1) = false := by rfl) (he2 : starEach [.Name y p2] X.env = (false, eval (.Name y p2) X.env) :: starEach [] X.env := by rfl) :
    DE X T E (.Call (.Name x p) [a, .Name y p2] [] pos) (eIsX a0 bb f) :=
  pe_imp (pe_callB (HotY.call_isP C hz hfl hp) hg hm hv (pa_cons ha (pa_cons hc pa_nil he2) he) hn hdb he hpl) fun σ H Q ⟨ρ, α, μ, S, sl, q⟩ => tD_bind S sl q fun v w H1 α1 μ1 st S1 sl1 rv q1 => by
    split at q1
    · rename_i k
      split at q1
      · rename_i hk
        subst hk
        obtain rfl := rv
        exact ⟨c, cv, bb, rfl, hcv, hb, PQ.bl S1 q1⟩
      · exact (show False from q1).elim
    · exact (show False from q1).elim
end
end L3

set_option Elab.async false
set_option linter.all false
set_option maxRecDepth 100000
set_option maxHeartbeats 2000000
/-! enumerate over a tuple or a list. -/
namespace EnY
open PySem PySem.Spec PyProof.Rows L2
set_option maxHeartbeats 4000000 in
theorem meets_enumerate_newT {v : Value} {o : Obj} {H : Heap → Prop} (B : Begins v o H) :
    Meets (Builtin.«enumerate.__new__» ⟨[.type "enumerate", v], []⟩) (fun _ R s => H s.heap ∧
      R (.ok (.ret (.ref (s.heap.push o).objs.size))) { s with heap := (s.heap.push o).push { cls := .type "enumerate", data := .fields #[.none, .bool false, .ref s.heap.objs.size, rawInt 0, .none, .none] } }) :=
  .of_wp fun prog w A R s h => by
    obtain ⟨hp, g, d, tk, os⟩ := s; obtain ⟨h1, h⟩ := h
    have hsub := sub_enumerate
    have q1 : ∀ {A' : Around} {E : Value → Shared → Prop} {Q : Value → Shared → Prop}, Q (.ref hp.objs.size) ⟨hp.push o, g, d, tk, os⟩ → wpAny (model prog w) A' (pyIter v) Q E ⟨hp, g, d, tk, os⟩ :=
      fun q => B.iter prog w _ _ ⟨hp, g, d, tk, os⟩ _ h1 q
    wp_walk using q1
    refine wpAny_stack_any fun st => wpAny_pure ?_
    split
    · rename_i c _ _ _ _ _
      cases (c == Value.type "enumerate")
      · wp_walk using q1
        exact ⟨_, rfl, h⟩
      · wp_walk using q1
        exact ⟨_, rfl, h⟩
    · wp_walk using q1
      exact ⟨_, rfl, h⟩
theorem enum_begin1 {prog : Program} {w : World} {A : Around} {E : Value → Shared → Prop} {s : Shared} {v : Value} {o : Obj} {H : Heap → Prop} {Q : Value → Shared → Prop} (B : Begins v o H) (h1 : H s.heap)
    (h : ∀ h', IsEnum h' (s.heap.objs.size + 1) s.heap.objs.size 0 .none → h'.get? s.heap.objs.size = some o → h'.objs.size = s.heap.objs.size + 2 →
      (∀ b o, s.heap.get? b = some o → h'.get? b = some o) → Q (.ref (s.heap.objs.size + 1)) { s with heap := h' }) :
    wpAny (model prog w) A (call (.type "enumerate") [v]) Q E s := by
  refine callType_new F.called_enumerate (by decide) (F.typeCall_enumerate_1 _) (F.newCall_enumerate_1 _) (fun obj => F.args_object_init_2 obj _) F.entry_enumerate_new
    (meets_enumerate_newT B) ⟨h1, ?_⟩
  have hz : (s.heap.push o).objs.size = s.heap.objs.size + 1 := Heap.size_push ..
  show _ ∧ _
  rw [hz]
  have he : IsEnum ((s.heap.push o).push { cls := .type "enumerate", data := .fields #[.none, .bool false, .ref s.heap.objs.size, rawInt 0, .none, .none] }) (s.heap.objs.size + 1) s.heap.objs.size 0 .none := by
    have := Heap.get?_push_size (s.heap.push o) (o := { cls := .type "enumerate", data := .fields #[.none, .bool false, .ref s.heap.objs.size, rawInt 0, .none, .none] }) rfl
    rw [hz] at this; exact this
  refine ⟨⟨_, he, rfl⟩, h _ he (Heap.get?_push_of_some _ (Heap.get?_push_size _ B.free)) (by rw [Heap.size_push, hz]) fun b o x => Heap.get?_push_of_some _ (Heap.get?_push_of_some _ x)⟩
/-- next of enumerate(tuple) at the end -/
theorem tup_end {prog : Program} {w : World} {A : Around} {E : Value → Shared → Prop} {s : Shared} {e it l : Addr} {i : Nat} {items : Array Value} {old : Value} {Q : Option Value → Shared → Prop} (hh : A.handled = none)
    (he : IsEnum s.heap e it i old) (hit : s.heap.IsTupleIter it l i) (hl : s.heap.IsTuple l items) (hx : items[i]? = none)
    (hQ : ∀ h', Heap.ExtBut it s.heap h' → Q none { s with heap := h' }) : wpAny (model prog w) A (pyNext (.ref e)) Q E s := by
  have hT : s.TypeIs (.ref e) "enumerate" := ⟨_, he, rfl⟩
  unfold pyNext
  refine wpAny_bind (wpAny_attempt (wpAny_callSpecial?_slot (name := Str.ofString "__next__") hT F.slot_enumerate_next
    (wpAny_call_entry F.slot_enumerate_next hT F.entry_enumerate_next ?_ (F.args_enumerate_next_1 _))))
  show wpAny _ _ (field (.ref e) 2 >>= _) _ _ _
  refine wpAny_bind (wpAny_field he rfl (x := .ref it) rfl ?_)
  refine wpAny_bind (wpAny_nextOf_tuple_end hh hit hl hx fun h' x he' hx' => ?_)
  obtain ⟨o, ho, hc⟩ := hx'
  refine wpAny_bind (wpAny_isInstance (T := "StopIteration") (b := true) ⟨o, ho, hc⟩ isSubtype_stop ?_)
  exact wpAny_pure (hQ _ he')
/-- the tuple at a, each item in a new pair -/
def IteT (K : PySem.W.Frag) (a : Addr) : It :=
  ⟨fun i H => ∃ (xs : List V) (x : V), SqT K H a xs ∧ xs[i]? = some x, fun i H v H' => ∃ T x, v = .ref T ∧ H T = none ∧ H' = upd H T (.tup [.int (i : Nat), x]) ∧ ∀ xs, SqT K H a xs → xs[i]? = some x, fun i H => ∃ xs : List V, SqT K H a xs ∧ xs.length ≤ i⟩
theorem turn_enumT {P : Program} {w : World} {K : PySem.W.Frag} {elts : List Expr} {kk : Nat} {tpos : Pos} (a e it : Addr) :
    Turn P w K (.Tuple elts kk tpos) (IteT K a) [e, it] e (fun i h => (∃ old, IsEnum h e it ((i : Nat) : Int) old) ∧ h.IsTupleIter it a i ∧ e ≠ it) where
  mem := by simp
  obj := fun i h st b hb => by
    obtain ⟨⟨old, he⟩, ⟨o, ho, hc, hd⟩, _⟩ := st
    have e' : b = e ∨ b = it := by simpa using hb
    rcases e' with z | z
    · rw [z]; exact ⟨_, he, fun v q => nomatch q⟩
    · rw [z]; exact ⟨o, ho, fun v q => by rw [hd] at q; cases q⟩
  keep := fun i h h' st k => let ⟨⟨old, he⟩, hi, hne⟩ := st; ⟨⟨old, k e (by simp) _ he⟩, hi.at fun o q => k it (by simp) o q, hne⟩
  item := by
    intro X hP hw hK hc i pins s σ H E I hf st hg
    subst hP hw hK
    obtain ⟨⟨old, he⟩, hit, hne⟩ := st
    obtain ⟨xs, x, hq, hx⟩ := hg
    obtain ⟨its, rv, p, hz⟩ := I.tuple hq
    obtain ⟨u, hu, ru⟩ := rv.get hx
    have hel : e < s.heap.objs.size := Heap.lt_size he
    have hil : it < s.heap.objs.size := by obtain ⟨_, q, _⟩ := hit; exact Heap.lt_size q
    have hta : a ≠ it := fun z => by
      obtain ⟨o1, h1, c1, _⟩ := p
      obtain ⟨o2, h2, c2, _⟩ := hit
      rw [z, h2] at h1; cases h1
      rw [c1] at c2
      injection c2 with c3
      exact absurd c3 (by decide)
    have D := Draws.tuple (prog := X.prog) (w := X.w) (A := X.A.in1) (I.ok.hd hc) it a hta its.toArray
    have hne2 : e ≠ a := fun z => by
      obtain ⟨o1, h1, c1, _⟩ := p
      rw [← z, he] at h1; cases h1
      injection c1 with c3
      exact absurd c3 (by decide)
    have hlt : i < its.toArray.size := by
      have := (List.getElem?_eq_some_iff.mp hu).1
      simpa using this
    refine wpAny_pyNext_enum_itemD D he ⟨hit, p⟩ hlt hne (by simp [hne, hne2]) fun x' h' tk hP ho hs' hT hsz hk => ?_
    have ex : x' = u := by
      have hP : its.toArray[i]? = some x' := hP
      rw [List.getElem?_toArray, hu] at hP
      exact (Option.some.inj hP).symm
    subst ex
    refine ⟨_, rfl, wpAny_letOwnedTupleGo_enum (s := { s with heap := h', toks := tk + 1 }) ho fun h'' he' sb => ?_⟩
    have hT2 : h''.get? s.heap.objs.size = some { cls := .type "tuple", data := .seq #[.int i tk, x'] } := (sb.2 _ (Nat.ne_of_gt hel)).trans hT
    have new : ObjOk X.prog X.w (upd H s.heap.objs.size (.tup [.int (i : Nat), x])) h'' s.heap.objs.size (.tup [.int (i : Nat), x]) :=
      ⟨by show 2 ≤ sizeLine; decide, [.int i tk, x'], .cons ⟨_, rfl⟩ (.cons ru .nil), ⟨_, hT2, rfl, _, rfl⟩⟩
    have I1 : Inv X pins σ (upd H s.heap.objs.size (.tup [.int (i : Nat), x])) { s with heap := h'', toks := tk + 1 } :=
      I.turnedNew (ch := [e, it]) (fun b ob hb q => (sb.2 b (fun z => hb (by simp [z]))).trans (hk b ob (fun z => hb (by simp [z])) (fun z => hb (by simp [z])) q)) hf (Nat.le_refl _) new
    refine ⟨.ref s.heap.objs.size, _, I1, rfl, ⟨_, x, rfl, I.hok.fresh (Nat.le_refl _), rfl, fun ys hy => by rw [I.tuple_inj hy hq]; exact hx⟩, ⟨⟨x', ?_⟩, hs'.1.at fun o q => (sb.2 it (Ne.symm hne)).trans q, hne⟩, fun b hb => ?_⟩
    · have e1 : ((i + 1 : Nat) : Int) = (i : Int) + 1 := by omega
      rw [e1]; exact he'
    · have hb' : b < s.heap.objs.size := by
        have e' : b = e ∨ b = it := by simpa using hb
        rcases e' with z | z
        · rw [z]; exact hel
        · rw [z]; exact hil
      rw [upd_ne (Nat.ne_of_lt hb')]
      exact (hf b hb).1
  done := by
    intro X hP hw hK hc i pins s σ H E I hf st hg
    subst hP hw hK
    obtain ⟨⟨old, he⟩, hit, hne⟩ := st
    obtain ⟨xs, hq, hx⟩ := hg
    obtain ⟨its, rv, p, hz⟩ := I.tuple hq
    obtain ⟨f0, f1, f2, f3, f4, f5⟩ := hf it (by simp)
    have hl := rv.length
    exact tup_end (I.ok.hd hc) he hit p (by simp; omega) fun h' eb => ⟨rfl, I.turned (t' := s.toks) (fun b o hb q => eb b o hb q) f0 f1 f3 f4 f5⟩
  self := fun A i s Q E st h => let ⟨⟨_, he⟩, _⟩ := st; wpAny_pyIter_enum he h
def iEnumT (K : PySem.W.Frag) (ta : TA) : TI := fun σ H R => ta σ H fun vs H1 => ∃ a xs, vs = [.ref a] ∧ ((SqL K H1 a xs ∧ R (Ite K a) H1) ∨ (SqT K H1 a xs ∧ R (IteT K a) H1))
theorem pi_enumT {X : Cx} {e : Expr} {ta : TA} {p pos tpos : Pos} {elts : List Expr} {kk : Nat} (hg : Gl X "enumerate") (hm : X.mg "enumerate" = none) (ha : PA X [e] ta) (hs : starEach [e] X.env = [(false, eval e X.env)] := by rfl) :
    PI X (.Tuple elts kk tpos) (.Call (.Name "enumerate" p) [e] [] pos) (iEnumT X.K ta) := by
  refine ⟨fun pins s σ H R I h => ?_⟩
  refine Call_ (ld_blt I hg hm boot_enumerate (PyProof.Rows.callWith_type1 (thn (ha.run pos pins s σ H _ I h) fun us s1 ⟨vs, H1, I1, r1, q1⟩ => ?_) hs rfl))
  obtain ⟨a, xs, ex, q1⟩ := q1
  subst ex
  cases r1 with
  | cons r rr =>
    cases rr
    cases r
    have fp : ∀ b, b ∈ [s1.heap.objs.size + 1, s1.heap.objs.size] → FpOk X pins H1 b := fun b hb => by
      have e' : b = s1.heap.objs.size + 1 ∨ b = s1.heap.objs.size := by simpa using hb
      have hle : s1.heap.objs.size ≤ b := by
        rcases e' with z | z
        · rw [z]; exact Nat.le_add_right _ _
        · rw [z]; exact Nat.le_refl _
      exact I1.fpOk hle (I1.hok.fresh hle)
    rcases q1 with ⟨hq, q⟩ | ⟨hq, q⟩
    · obtain ⟨its, rv, p', hz⟩ := I1.list hq
      refine call_enumerate_list p'.isList fun h' he hit hsz hk => wpAny_pyIter_enum he ?_
      have I2 : Inv X pins σ H1 { s1 with heap := h' } := I1.kept (t' := s1.toks) hk
      exact ⟨s1.heap.objs.size + 1, [s1.heap.objs.size + 1, s1.heap.objs.size], _, _, H1, rfl, I2, turn_enum a (s1.heap.objs.size + 1) s1.heap.objs.size, ⟨⟨.none, he⟩, hit, Nat.succ_ne_self _⟩, fp, q⟩
    · obtain ⟨its, rv, p', hz⟩ := I1.tuple hq
      refine enum_begin1 (begins_tuple a its.toArray) p' fun h' he hit hsz hk => wpAny_pyIter_enum he ?_
      have I2 : Inv X pins σ H1 { s1 with heap := h' } := I1.kept (t' := s1.toks) hk
      exact ⟨s1.heap.objs.size + 1, [s1.heap.objs.size + 1, s1.heap.objs.size], _, _, H1, rfl, I2, turn_enumT a (s1.heap.objs.size + 1) s1.heap.objs.size, ⟨⟨.none, he⟩, ⟨_, hit, rfl, rfl⟩, Nat.succ_ne_self _⟩, fp, q⟩
end EnY
namespace L3
open PySem PySem.Spec PyProof.Rows L2 Mi
theorem enum_at {l : List D} {i : Nat} {d : D} (h : (enumD l)[i]? = some d) : ∃ x, l[i]? = some x ∧ d = .tuple [.int (i : Nat), x] := by
  unfold enumD at h
  rw [List.getElem?_map, List.getElem?_zipIdx] at h
  cases e : l[i]? with
  | none => rw [e] at h; cases h
  | some x =>
    rw [e] at h
    cases h
    exact ⟨x, rfl, by simp⟩
theorem enum_len (l : List D) : (enumD l).length = l.length := by simp [enumD]
section
variable {C : Cv} {E : XK} {H : Hp} {α : Al} {μ : Sto}
theorem yields_enumL {M : Addr → Prop} {a : Addr} {xs : List V} {ds : List PyData} (hx : Rd H a (.lst xs)) (n : ¬ M a) (r : RpAll C.K H M xs ds) : Yields C (Ite C.K a) (enumD ds) H M := by
  intro i H2 M2 st _
  have h2 : SqL C.K H2 a xs := .inl (st.rd hx n).1
  have r2 := r.ext st
  refine ⟨fun d e => ?_, fun h => ⟨xs, h2, by rw [r2.length]; rw [enum_len] at h; exact h⟩⟩
  obtain ⟨x, e1, rfl⟩ := enum_at e
  obtain ⟨v, h3, h4⟩ := r2.get e1
  refine ⟨⟨xs, v, h2, h3⟩, fun z H' yy => ?_⟩
  obtain ⟨T, x', rfl, nT, rfl, g1⟩ := yy
  have e3 := g1 xs h2
  rw [h3] at e3; cases e3
  exact rp_newT nT (.cons (.int _) (.cons h4 .nil))
theorem yields_enumT {M : Addr → Prop} {a : Addr} {xs : List V} {ds : List PyData} (hx : SqT C.K H a xs) (r : RpAll C.K H M xs ds) : Yields C (EnY.IteT C.K a) (enumD ds) H M := by
  intro i H2 M2 st _
  have h2 : SqT C.K H2 a xs := st.sqT hx
  have r2 := r.ext st
  refine ⟨fun d e => ?_, fun h => ⟨xs, h2, by rw [r2.length]; rw [enum_len] at h; exact h⟩⟩
  obtain ⟨x, e1, rfl⟩ := enum_at e
  obtain ⟨v, h3, h4⟩ := r2.get e1
  refine ⟨⟨xs, v, h2, h3⟩, fun z H' yy => ?_⟩
  obtain ⟨T, x', rfl, nT, rfl, g1⟩ := yy
  have e3 := g1 xs h2
  rw [h3] at e3; cases e3
  exact rp_newT nT (.cons (.int _) (.cons h4 .nil))
end
section
variable {X : Cx} {T : List (Addr × Str)} {E : XK} {pos : Pos} {a : Expr} {f : EF}
theorem enum_rd {σ : L2.St} {H : Hp} {R' : It → Hp → Prop} (q : tI (CvX X T) E (iEnumD f) σ H R') : EnY.iEnumT X.K (tCons (tD (CvX X T) E f) tNil) σ H R' := by
  obtain ⟨ρ, α, μ, S, sl, q⟩ := q
  refine tD_bindI S sl q fun v w H1 α1 μ1 st1 S1 sl1 r1 q1 => ?_
  split at q1
  · rename_i l0 μ0 e0
    split at e0
    · rename_i l
      split at e0
      · rename_i hl
        cases e0
        cases r1 with
        | tup h1 rr1 => exact ⟨_, _, rfl, .inr ⟨h1, q1 _ H1 α1 (.refl _ _ _) S1 (by rw [enum_len]; exact Nat.le_trans hl (by decide)) (yields_enumT h1 rr1)⟩⟩
      · cases e0
    · rename_i l
      split at e0
      · rename_i hl
        cases e0
        cases r1 with
        | lst h1 n1 rr1 => exact ⟨_, _, rfl, .inl ⟨.inl h1, q1 _ H1 α1 (.refl _ _ _) S1 (by rw [enum_len]; exact Nat.le_trans hl (by decide)) (yields_enumL h1 n1 rr1)⟩⟩
      · cases e0
    · cases e0
  · rename_i x0 μ0 e0
    split at e0
    · split at e0 <;> cases e0
    · split at e0 <;> cases e0
    · cases e0
  · exact q1.elim
theorem di_enum {p tpos : Pos} {elts : List Expr} {kk : Nat} (ha : DE X T E a f) (hm : X.mg "enumerate" = none) (hg : Gl X "enumerate" := by rfl)
    (hs : starEach [a] X.env = [(false, eval a X.env)] := by rfl) :
    DI X T E (.Tuple elts kk tpos) (.Call (.Name "enumerate" p) [a] [] pos) (iEnumD f) :=
  pi_imp (EnY.pi_enumT hg hm (pa_cons ha pa_nil hs) hs) fun σ H R' q => enum_rd q
end
end L3

set_option Elab.async false
set_option linter.all false
set_option maxRecDepth 100000
set_option maxHeartbeats 4000000
/-! len(set(a list of truth values)). -/
namespace SetY
open PySem PySem.Spec PyProof.Rows L2 Mi
theorem cnt_step (bs : List Bool) (b : Bool) : cntB (bs ++ [b]) = if decide (b ∈ bs) = true then cntB bs else cntB bs + 1 := by
  unfold cntB
  cases b <;> by_cases h1 : true ∈ bs <;> by_cases h2 : false ∈ bs <;> simp [h1, h2]
theorem cnt_le (bs : List Bool) : cntB bs ≤ 2 := by
  unfold cntB
  split <;> split <;> omega
section
variable {prog : Program} {w : World} {A : Around} {R : Result → Shared → Prop} {I : Addr} {fp wr : List Addr} {G : Array GenState → Array GenState → Prop} {n : Nat} {P : Nat → Value → Prop} {St : Nat → Shared → Prop}
def SB (prog : Program) (w : World) (bs : List Bool) (h : Heap) (a : Addr) : Prop := h.SetOf (PpSet.boolK prog w) a (fun k => decide (k ∈ bs)) (cntB bs)
theorem SB.at {bs : List Bool} {h h' : Heap} {a : Addr} (x : SB prog w bs h a) (k : ∀ o, h.get? a = some o → h'.get? a = some o) : SB prog w bs h' a := by
  obtain ⟨o, es, ep, tb, ho, rest⟩ := x
  exact ⟨o, es, ep, tb, k o ho, rest⟩
theorem addLoop (W : WalksS prog w A.in1 I fp wr G n P St) (a : Addr) (hSf : a ∉ fp) (bs : List Bool) (hn : bs.length = n) (hval : ∀ i v, P i v → ∃ b, bs[i]? = some b ∧ v = .bool b) :
    ∀ (k i : Nat) (s : Shared), n - i = k → i ≤ n → St i s → SB prog w (bs.take i) s.heap a →
      (∀ s', Moved (a :: wr) G s s' → SB prog w bs s'.heap a → R (.ok (.ret .none)) s') → codeAny (model prog w) A (.builtin "set.update.loop" ⟨[.ref a, .ref I], []⟩) R s := by
  have hSw : a ∉ wr := fun h => hSf (W.sub _ h)
  have up : ∀ b ∈ wr, b ∈ a :: wr := fun b hb => List.mem_cons_of_mem _ hb
  intro k
  induction k with
  | zero =>
    intro i s hk hi hst hS hR
    obtain rfl : i = n := by omega
    refine codeAny_builtin F.entry_set_update_loop ?_
    rw [Around.under_plainId F.plain_set_update_loop _]
    show wpAny _ A.in1 (pyNext (.ref I) >>= _) _ _ s
    refine wpAny_bind (W.done s _ _ hst fun s' hm => ?_)
    show wpAny _ A.in1 (ret Value.none) _ _ s'
    rw [← hn, List.take_length] at hS
    exact wpAny_pure (hR s' (hm.mono up) (hS.at fun o e => hm.heap a _ hSw e))
  | succ k ih =>
    intro i s hk hi hst hS hR
    have hlt : i < n := by omega
    refine codeAny_builtin F.entry_set_update_loop ?_
    rw [Around.under_plainId F.plain_set_update_loop _]
    show wpAny _ A.in1 (pyNext (.ref I) >>= _) _ _ s
    refine wpAny_bind (W.item i s _ _ hlt hst fun v s' hP hst' hm => ?_)
    obtain ⟨b, hb, rfl⟩ := hval i v hP
    have hS' : SB prog w (bs.take i) s'.heap a := hS.at fun o e => hm.heap a _ hSw e
    have et : bs.take (i + 1) = bs.take i ++ [b] := by rw [List.take_add_one, hb]; rfl
    show wpAny _ A.in1 (holding [Value.bool b] (setAdd a (.bool b)) >>= _) _ _ s'
    refine wpAny_bind (wpAny_holding ?_)
    unfold setAdd
    refine wpAny_holding (wpAny_bind ((PpSet.boolK prog w).pyHash (k := b) (PpSet.boolK_is prog w b) ?_))
    refine wpAny_setAddHashed_of (knd := PpSet.boolK prog w) (s := { s' with toks := s'.toks + 1 }) (PpSet.boolK_is prog w b) rfl hS' (by have := cnt_le (bs.take i); unfold scanBound; omega) fun h' hsb hS2 => ?_
    have hSi : SB prog w (bs.take (i + 1)) h' a := by
      rw [et]
      refine SetOf_congr hS2 (fun c => ?_) (cnt_step (bs.take i) b).symm
      by_cases h1 : c ∈ bs.take i <;> by_cases h2 : c = b <;> simp [h1, h2]
    refine wpAny_pure ⟨plainId_quiet F.plain_set_update_loop _, ih (i + 1) _ (by omega) hlt (W.frame _ s' _ _ hst' (Nat.le_succ _) fun c hc o e => ?_) hSi fun s2 hm2 hS3 => ?_⟩
    · rw [hsb.2 c fun z => hSf (by rw [← z]; exact hc)]; exact e
    · refine hR s2 (Moved.trans W.gtrans ((hm.mono up).then_heap (Nat.le_succ _) fun c o hc e => ?_) hm2) hS3
      rw [hsb.2 c fun z => hc (by rw [z]; exact List.mem_cons_self)]; exact e
end
theorem bools_at : ∀ {bs : List Bool} {us : List Value}, Vals (bs.map V.bl) us → ∀ (i : Nat) (v : Value), us[i]? = some v → ∃ b, bs[i]? = some b ∧ v = .bool b
  | [], _, .nil, i, v, h => by simp at h
  | b :: bs, _, .cons r t, 0, v, h => by
    cases r
    simp only [List.getElem?_cons_zero, Option.some.injEq] at h
    exact ⟨b, rfl, h.symm⟩
  | b :: bs, _, .cons r t, i + 1, v, h => by
    simp only [List.getElem?_cons_succ] at h
    exact bools_at t i v h
section
variable {prog : Program} {w : World} {A : Around} {E : Value → Shared → Prop} {s : Shared}
/-- what the set's __init__ does with the list -/
theorem set_of {l : Addr} {items : Array Value} {bs : List Bool} {Q : Value → Shared → Prop} (hh : A.handled = none) (hl : s.heap.IsList l items) (hi : Vals (bs.map V.bl) items.toList)
    (h : ∀ (h' : Heap) (tk : Nat), SB prog w bs h' s.heap.objs.size → (∀ b o, b < s.heap.objs.size → s.heap.get? b = some o → h'.get? b = some o) → Q (.ref s.heap.objs.size) { s with heap := h', toks := tk }) :
    wpAny (model prog w) A (call (.type "set") [.ref l]) Q E s := by
  obtain ⟨c, tl, hmro⟩ := F.called_set.mro
  have hmade := F.called_set.made
  have hsub := F.called_set.sub
  refine wpAny_call (codeAny_of_tree ?_)
  show wpAny _ _ (callAny (.type "set") _) _ _ _
  refine wpAny_pure ⟨Code.quiet_builtin _ (by decide +kernel), codeAny_builtin F.entry_type_call ?_⟩
  rw [Around.under_plain (weight_type_call_type "set" [.ref l] []) rfl]
  have h1 := F.called_set.notType
  have h2 := F.called_set.canCreate
  have hct := F.typeCall_set_1 (.ref l)
  repeat (any_goals (first | assumption | wp_step))
  refine codeAny_mono (code_set_new_1 (.ref l) (E := E) (Q₁ := fun v s1 => ∃ led : Bool, v = .ref s.heap.objs.size ∧ s1 = { s with heap := s.heap.push { cls := .type "set", dict := none, data := .set #[] 0 (.fresh 0 0 led) } }) fun led => ⟨led, rfl, rfl⟩) fun r s1 hr => ?_
  cases r with
  | error e => exact hr
  | ok fl =>
    cases fl with
    | ret obj =>
      obtain ⟨led, rfl, rfl⟩ := hr
      have hS : (s.heap.push { cls := .type "set", dict := none, data := .set #[] 0 (.fresh 0 0 led) }).get? s.heap.objs.size = some { cls := .type "set", dict := none, data := .set #[] 0 (.fresh 0 0 led) } := Heap.get?_push_size _ rfl
      have hT : Shared.TypeIs { s with heap := s.heap.push { cls := .type "set", dict := none, data := .set #[] 0 (.fresh 0 0 led) } } (.ref s.heap.objs.size) "set" := ⟨_, hS, rfl⟩
      have hli := F.called_set.init.lookup
      have hbi := F.called_set.init.bind (.ref s.heap.objs.size)
      repeat (any_goals (first | assumption | wp_step))
      refine codeAny_mono (codeAny_call_builtin (R := wants (fun r s2 => r = .none ∧ ∃ h' tk, s2 = { s with heap := h', toks := tk } ∧ SB prog w bs h' s.heap.objs.size ∧
          (∀ b o, b < s.heap.objs.size → s.heap.get? b = some o → h'.get? b = some o)) E) F.called_set.init.plain F.entry_set_init (check_set_init_1 hT ?_)) fun r2 s2 hr2 => ?_
      · obtain ⟨⟨ocls, odict, odata, oslots⟩, hol, hcl, nl, hdl⟩ := hl
        simp only at hcl hdl
        subst hcl; subst hdl
        have hol' : (s.heap.push { cls := .type "set", dict := none, data := .set #[] 0 (.fresh 0 0 led) }).get? l = some { cls := .type "list", dict := odict, data := .seq items nl, slots := oslots } := Heap.get?_push_of_some _ hol
        have hsls := F.sub_list_set
        have hslf := F.sub_list_frozenset
        have hne : (Value.type "list" == Value.type "dict") = false := by decide
        have hl1 : (s.heap.push { cls := .type "set", dict := none, data := .set #[] 0 (.fresh 0 0 led) }).IsList l items := ⟨_, hol', rfl, nl, rfl⟩
        unfold Builtin.«set.__init__» noKeywords Builtin.Frozenset.updateFrom
        generalize hPI : pyIter = PI
        wp_walk
        subst hPI
        refine wpAny_pyIter_list hl1 (wpAny_bind (wpAny_runValue ?_))
        have hlS : l < s.heap.objs.size := Heap.lt_size hol
        have ez : (s.heap.push { cls := .type "set", dict := none, data := .set #[] 0 (.fresh 0 0 led) }).objs.size = s.heap.objs.size + 1 := Heap.size_push ..
        have hneI : l ≠ (s.heap.push { cls := .type "set", dict := none, data := .set #[] 0 (.fresh 0 0 led) }).objs.size := by rw [ez]; exact Nat.ne_of_lt (Nat.lt_succ_of_lt hlS)
        refine addLoop ((Walks.list (by simp [hh]) _ l hneI items).toS) s.heap.objs.size (by rw [ez]; simp only [List.mem_cons, List.not_mem_nil, or_false, not_or]; exact ⟨Nat.ne_of_lt (Nat.lt_succ_self _), Nat.ne_of_gt hlS⟩) bs (by have := hi.length; simpa using this)
          (fun i v hv => bools_at hi i v (by rw [Array.getElem?_toList]; exact hv)) (items.size - 0) 0 _ (by omega) (Nat.zero_le _) ⟨⟨_, Heap.get?_push_size _ rfl, rfl, rfl⟩, (hl1.push _)⟩ ?_ fun s' hm hS' => ?_
        · exact SetOf_congr ((setObjOf_fresh (knd := PpSet.boolK prog w) led).setOf (Heap.get?_push_of_some _ hS) (by unfold scanBound; omega)) (fun _ => rfl) rfl
        · obtain ⟨h', g', d', tk', os'⟩ := s'
          obtain rfl : g' = s.gens := hm.gens
          obtain rfl : d' = s.drawn := hm.drawn
          obtain rfl : os' = s.os := hm.os
          show wpAny _ _ _ _ _ _
          refine wpAny_pure ?_
          show wpAny _ _ (ret Value.none) _ _ _
          refine wpAny_pure ⟨rfl, h', tk', rfl, hS', fun b o hb e => hm.heap b o ?_ (Heap.get?_push_of_some _ (Heap.get?_push_of_some _ e))⟩
          rw [ez]
          simp only [List.mem_cons, List.not_mem_nil, or_false, not_or]
          exact ⟨Nat.ne_of_lt hb, Nat.ne_of_lt (Nat.lt_succ_of_lt hb)⟩
      · cases r2 with
        | error e => exact hr2
        | ok fl2 =>
          cases fl2 with
          | ret r =>
            obtain ⟨rfl, h', tk, rfl, hS', hk'⟩ := hr2
            repeat (any_goals (first | assumption | wp_step))
            exact h _ _ hS' hk'
          | _ => exact hr2.elim
    | _ => exact hr.elim
end
def tLenSetB (K : PySem.W.Frag) (ta : TE) : TE := fun σ H Q => ta σ H fun x H1 => ∃ (l : Addr) (bs : List Bool), x = .ref l ∧ SqL K H1 l (bs.map V.bl) ∧ Q (.int (cntB bs : Nat)) H1
theorem pe_lenSetB {X : Cx} {a : Expr} {ta : TE} {p p2 q pos : Pos} (hc : X.calm = true) (hg : Gl X "len") (hm : X.mg "len" = none) (hg2 : Gl X "set") (hm2 : X.mg "set" = none) (ha : PE X a ta)
    (na : starEach [a] X.env = (false, eval a X.env) :: starEach [] X.env := by rfl) : PE X (.Call (.Name "len" p) [.Call (.Name "set" p2) [a] [] q] [] pos) (tLenSetB X.K ta) := by
  refine ⟨fun pins s σ H Q I h => ?_⟩
  refine Call_ (ld_blt I hg hm PySem.boot_len ?_)
  refine PyProof.Rows.callWith_builtin1 (PyProof.Rows.args_cons ?_ rfl) rfl rfl
  refine Call_ (ld_blt I hg2 hm2 PyProof.Rows.boot_set ?_)
  refine PyProof.Rows.callWith_type1 (PyProof.Rows.args_cons (thn (ha.run pins s σ H _ I h) fun v s1 ⟨x, H1, I1, r1, q1⟩ => PyProof.Rows.args_nil ?_) na) na rfl
  obtain ⟨l, bs, rfl, hq, q1⟩ := q1
  cases r1
  obtain ⟨its, r, pl, hz⟩ := I1.list hq
  refine set_of (I1.ok.hd hc) pl.isList (by simpa using r) fun h' tk hS hk => ?_
  refine PyProof.Rows.args_nil ?_
  obtain ⟨o, es, ep, t, ho, hex, hd, _, _, _, hf, hn⟩ := hS
  have I2 : Inv X pins σ H1 { s1 with heap := h', toks := tk } := I1.kept fun b o e => hk b o (Heap.lt_size e) e
  have hle := cnt_le bs
  exact call_len_set ho hex hd hf (by rw [hn]; omega) ⟨.int (cntB bs : Nat), H1, I2.tok _, ⟨_, by rw [hn]⟩, q1⟩
end SetY
namespace L3
open PySem PySem.Spec PyProof.Rows L2 Mi
theorem RpAll.bls {K : PySem.W.Frag} {H : Hp} {M : Addr → Prop} : ∀ {vs : List V} {ds : List D} {ys : List Bool}, RpAll K H M vs ds → boolsL ds = some ys → vs = ys.map V.bl
  | _, _, _, .nil, e => by cases e; rfl
  | _, .bool b :: ds, ys, .cons r t, e => by
    unfold boolsL at e
    cases e1 : boolsL ds with
    | none => rw [e1] at e; cases e
    | some k' =>
      rw [e1] at e
      cases e
      cases r
      rw [RpAll.bls t e1]
      rfl
  | _, .none :: ds, _, .cons r t, e => by cases e
  | _, .str _ :: ds, _, .cons r t, e => by cases e
  | _, .int _ :: ds, _, .cons r t, e => by cases e
  | _, .list _ :: ds, _, .cons r t, e => by cases e
  | _, .tuple _ :: ds, _, .cons r t, e => by cases e
  | _, .dict _ :: ds, _, .cons r t, e => by cases e
theorem de_lenSet {X : Cx} {T : List (Addr × Str)} {E : XK} {j : Nat} {a : Expr} {f : EF} {p p2 q pos : Pos} (ck : CK X E j) (ha : DE X T E a f) (hm : X.mg "len" = none) (hm2 : X.mg "set" = none) (hg : Gl X "len" := by rfl) (hg2 : Gl X "set" := by rfl)
    (na : starEach [a] X.env = (false, eval a X.env) :: starEach [] X.env := by rfl) : DE X T E (.Call (.Name "len" p) [.Call (.Name "set" p2) [a] [] q] [] pos) (eLenSet f) :=
  pe_imp (SetY.pe_lenSetB ck.calm hg hm hg2 hm2 ha na) fun σ H Q ⟨ρ, α, μ, S, sl, q⟩ => tD_bind S sl q fun v w H1 α1 μ1 st1 S1 sl1 rv q1 => by
    split at q1
    · rename_i l
      split at q1
      · rename_i bs e
        split at q1
        · cases rv with
          | lst h1 n1 rr1 =>
            have hv := rr1.bls e
            subst hv
            exact ⟨_, bs, rfl, .inl h1, q1 _ H1 α1 (.refl _ _ _) S1 (.int _)⟩
        · exact (show False from q1).elim
      · exact (show False from q1).elim
    · exact (show False from q1).elim
end L3

set_option Elab.async false
set_option linter.all false
set_option maxRecDepth 100000
set_option maxHeartbeats 2000000
/-! The def that tells an error's names, called within an except suite; the def that tries a lambda. -/
namespace L3
open PySem PySem.Spec PyProof.Rows L2 Mi
/-! ### a call while an error is handled -/
theorem run_ofSH {CX : CXT} {P : Program} {w : World} {K : PySem.W.Frag} {mg : Str → Option Value} {base : Heap} {k : Nat} {f : Addr} {name qual : Str} {params : Arguments} {body : List Stmt} {scope : Scope} {dV kV doc pm cdv ct oc : Value} {an od : Option Addr}
    {osl : Array (Option Value)} {N ps : List Str} (lk : K.lookup f = some ⟨oc, od, .func (PySem.W.fnOf name qual params body scope dV kV doc pm an cdv ct), osl⟩) (hcd : PySem.W.codeIn K cdv qual = true) (S : FnScope N ps scope)
    {A : Around} {outer : List PySem.Env} {s : Shared} {H : Hp} {args : Args} {us : List Value} {vs : List V} {Q : VK} {E : XK} {p : Addr × Obj} (hr : L2H.RoomH (k + 1) A) (hpin : L2H.PinOk outer H s p) (e0 : Env0 P w K mg base A outer s H)
    (hb : BindsTo s (PySem.W.fnOf name qual params body scope dV kV doc pm an cdv ct) args (ps.zip us)) (r : Vals vs us) (hl : vs.length = ps.length)
    (hbody : L2H.RoomH k (A.deeper (envOfC qual scope s.heap.objs.size f cdv)) → ∃ t, PSs (L2H.cxH CX P w K mg base N qual scope f cdv A outer s H E p) body t ∧ t { nx := fun _ H' => Q .non H', rt := Q } (L2.start N vs) H) :
    codeAny (model P w) A (.call (.ref f) args) (CR CX outer P w H s Q E) s := by
  have KX : K.In s.heap := e0.mod.kin.keeps fun b o e => (e0.bs b o e).1
  have lim : s.heap.NoLimit := e0.mod.nolimit.keeps fun b o e => (e0.bs b o e).1
  have hkind : ∀ y ∈ ps.zip us, scope.names.lookup y.1 = some .local ∨ (scope.names.lookup y.1 = some .cell ∧ ((cellsFrom (s.heap.objs.size + 1) scope.names []).lookup y.1).isSome = true) := fun ⟨n, v⟩ hy => by
    rcases S.par n (List.of_mem_zip hy).1 with q | q
    · exact .inl q
    · exact .inr ⟨q, PySem.W.cellsFrom_some _ _ _ (.inl q)⟩
  refine codeAny_call_function hr.depth (KX _ _ lk) rfl S.co S.gen rfl (PySem.W.codeRec_of KX hcd) (hb _ _ _ _ ?_)
  refine wpAny_newFunctionEnv_cells S.kind hkind fun env he s1 x => ?_
  subst he
  refine ⟨lim.keeps x.toInCall.keep, codeAny_func ?_⟩
  obtain ⟨t, ht, hq⟩ := hbody (hr.deeper _)
  have I : Inv (L2H.cxH CX P w K mg base N qual scope f cdv A outer s H E p) [] (L2.start N vs) H s1 := L2H.inv_startH S hpin e0 hl r x
  refine wpAny_mono (ht.run [] s1 (L2.start N vs) H _ I hq) (fun fl s' hs => ?_) fun e s' hs => hs
  have fin : ∀ {σ' : L2.St} {H' : Hp} {v : V} {u : Value}, Inv (L2H.cxH CX P w K mg base N qual scope f cdv A outer s H E p) [] σ' H' s' → RelV v u → Q v H' → CE outer P w H s Q u s' :=
    fun {σ' H' v u} J rv q => ⟨v, H', J.os, J.bare, J.base, J.hok, rv, q⟩
  cases fl with
  | ret u =>
    obtain ⟨v, σ', H', J, rv, q⟩ := hs
    exact fin J rv q
  | next =>
    obtain ⟨σ', H', J, q⟩ := hs
    exact fin (v := V.non) (u := Value.none) J rfl q
  | brk =>
    obtain ⟨_, _, _, q⟩ := hs
    exact False.elim q
  | cont =>
    obtain ⟨_, _, _, q⟩ := hs
    exact False.elim q
/-- the def x tells the names of an error of a class that row knows -/
structure HasNm (P : Program) (w : World) (K : PySem.W.Frag) (mg : Str → Option Value) (base : Heap) (T : List (Addr × Str)) (k : Nat) (x : Str) (row : Addr → Str → Prop) : Prop where
  ex : ∃ f fd n0, mg x = some (.ref f) ∧ PySem.W.keepIn K (.ref f) = true ∧ Binds K fd [n0] [] ∧
    ∀ (A : Around) (outer : List PySem.Env) (s : Shared) (H : Hp) (args : Args) (a0 D : Addr) (oe : Obj) (nm : Str) (Q : VK) (E : XK) (α : Al) (μ : Sto), L2H.RoomH k A → L2H.Hot1 A (a0, oe) → L2H.PinOk outer H s (a0, oe) → Zc (.ref D) none oe → row D nm →
      Env0 P w K mg base A outer s H → BindsTo s fd args ([n0].zip [.ref a0]) → Stor ⟨K, mg, T⟩ H α μ → PQ ⟨K, mg, T⟩ E Q H α μ (.ok (.d (.str nm)) μ) → codeAny (model P w) A (.call (.ref f) args) (CR (L2N.CX P w) outer P w H s Q E) s
section
variable {P : Program} {w : World} {K : PySem.W.Frag} {mg : Str → Option Value} {base : Heap} {T : List (Addr × Str)}
theorem nm_ok {x n0 : Str} {st : Stmt} {N : List Str} {k : Nat} {row : Addr → Str → Prop} (d : DefFact K mg x st [n0]) (S : FnScope N [n0] (defScope st))
    (hbody : ∀ (f : Addr) (cdv : Value) (A : Around) (outer : List PySem.Env) (s : Shared) (H : Hp) (E : XK) (a0 D : Addr) (oe : Obj) (nm : Str), L2H.Hot1 A (a0, oe) → Zc (.ref D) none oe → row D nm → A.units + 64 + 3 < cLine →
      ∃ F : SF, DSs (L2H.cxH (L2N.CX P w) P w K mg base N x (defScope st) f cdv A outer s H E (a0, oe)) T E (defBody st) F ∧ ∀ μ, F (startE N.length [.x a0]) μ = .rt (.d (.str nm)) μ) : HasNm P w K mg base T (k + 1) x row := by
  obtain ⟨f, fd, dvs, kws, Fu, hm, hb⟩ := d.ex
  obtain ⟨oc, od, dV, kV, doc, pm, an, cdv, ct, osl, rfl, lk, hcd, _, _⟩ := Fu.ex
  refine ⟨f, _, n0, hm, Fu.kp, hb, fun A outer s H args a0 D oe nm Q E α μ hr hot hpin hz hrow e0 hbn S0 q => ?_⟩
  refine run_ofSH (N := N) (ps := [n0]) (us := [.ref a0]) (vs := [.ref a0]) (p := (a0, oe)) lk hcd S hr hpin e0 hbn (.cons rfl .nil) rfl fun hr2 => ?_
  have hu : A.units + 64 + 3 < cLine := by have := hr.un; omega
  obtain ⟨F, hF, e⟩ := hbody f cdv A outer s H E a0 D oe nm hot hz hrow hu
  refine ⟨_, hF, startE N.length [.x a0], α, μ, S0, ⟨?_, ?_⟩, ?_⟩
  · simp only [startE, L2.start, List.length_append, List.length_map, List.length_replicate, List.length_cons, List.length_nil]
  · exact Sl.start (vs := [.ref a0]) (ws := [.x a0]) (.cons rfl .nil) _
  · rw [e]
    exact q
end
section
variable {X : Cx} {T : List (Addr × Str)} {E : XK} {k i : Nat} {pos : Pos}
theorem pe_nm {x n : Str} {row : Addr → Str → Prop} {q1 q2 : Pos} (h : HasNm X.prog X.w X.K X.mg X.base T k x row) (hr : L2H.RoomH k X.A) {a0 D : Addr} {oe : Obj} {nm : Str} (hot : L2H.Hot1 X.A (a0, oe)) (hp : (a0, oe) ∈ X.pn) (hz : Zc (.ref D) none oe) (hrow : row D nm)
    (hN : X.N[i]? = some n) (hv : Vis X.env.scope n) (hg : Gl X x := by rfl) (hdb : (x == ("__debug__" : Str)) = false := by decide) (hd : (n == ("__debug__" : Str)) = false := by decide) (hcd : (n == ("__classdict__" : Str)) = false := by decide)
    (he : starEach [.Name n q2] X.env = (false, eval (.Name n q2) X.env) :: starEach [] X.env := by rfl) (hpl : (backTo pos (starEach [] X.env)).any (·.1) = false := by rfl) :
    PE X (.Call (.Name x q1) [.Name n q2] [] pos) (fun σ H Q => σ[i]? = some (some (.ref a0)) ∧ ∃ α μ, Stor (CvX X T) H α μ ∧ PQ (CvX X T) E0 Q H α μ (.ok (.d (.str nm)) μ)) := by
  refine ⟨fun pins s σ H Q I hh => ?_⟩
  obtain ⟨hs, α, μ, S, q⟩ := hh
  obtain ⟨f, fd, n0, hm, hk, hb, run⟩ := h.ex
  refine wpAny_Call_Name_kw (ld_glob I hg hm ?_ hdb)
  refine PySem.W.callWith_K (h₀ := X.base) I.ok.mod.kin hk (thn ((pa_cons (pe_var (pos := q2) hN hv hd hcd) pa_nil he).run pos pins s σ H (fun vs H1 => vs = [.ref a0] ∧ H1 = H) I ⟨_, hs, rfl, rfl⟩) fun us s1 ⟨vs, H1, I1, r, e1, e2⟩ => ⟨I1.kIn, ?_⟩) he hpl
  subst e1 e2
  cases r with
  | cons r1 rr =>
    cases rr
    cases r1
    have P1 := I1.pin (a0, oe) (List.mem_append_left _ hp)
    have hpin : L2H.PinOk X.stack H1 s1 (a0, oe) := ⟨P1.1, P1.2.1, fun hm => (List.mem_cons.mp (I1.stkSub a0 hm)).elim P1.2.2.1 P1.2.2.2.1, P1.2.2.2.2⟩
    have b := hb s1 [.ref a0] I1.kIn rfl
    refine wpAny_call (codeAny_mono (run X.A X.stack s1 H1 ⟨[.ref a0], []⟩ a0 D oe nm Q E0 α μ hr hot hpin hz hrow I1.env0 b S q) fun r s' hq => ?_)
    cases r with
    | error e =>
      obtain ⟨_, _, _, _, _, _, _, _, _, _, _, _, z⟩ := hq
      exact z.elim
    | ok fl =>
      cases fl with
      | ret u => exact I1.after hq
      | next => exact False.elim hq
      | brk => exact False.elim hq
      | cont => exact False.elim hq
end
/-! ### lambdas -/
/-- where the lambdas of the block are kept -/
def LamAt (X : Cx) (T : List (Addr × Str)) : Prop := ∃ c P, X.env.code = .ref c ∧ LamX.TabB X.base X.mg c P ∧ (P, X.env.qual ++ "<lambda>") ∈ T ∧ ∀ p ∈ T, p.1 = P → p.2 = X.env.qual ++ "<lambda>"
theorem extN_step {C : Cv} {H H1 : Hp} {α : Al} {μ : Sto} (S : Stor C H α μ) (e : LamX.ExtN H H1) (t : LamX.Tabs C.T H1) : Step H α μ H1 α μ ∧ Stor C H1 α μ := by
  have ex : Ext H (Own α μ) H1 (Own α μ) := ⟨fun b o h n t => ⟨e b o h t, n⟩, fun b xs h => e b _ h (fun _ z => by cases z), fun b o u h => e b _ h (fun _ z => by cases z)⟩
  refine ⟨⟨ex, fun _ _ h => h, rfl, fun b hb => ?_⟩, ⟨S.len, S.nd, fun a h => ?_, fun k c h => ?_, t⟩⟩
  · obtain ⟨o, q, n⟩ := S.there b (List.mem_append_right _ hb)
    rw [q]
    exact e b o q n
  · obtain ⟨o, q, n⟩ := S.there a h
    exact ⟨o, e a o q n, n⟩
  · obtain ⟨a, h1, h2⟩ := S.cell k c h
    refine ⟨a, h1, ?_⟩
    cases c with
    | lst l => obtain ⟨ys, e1, e2⟩ := h2; exact ⟨ys, e _ _ e1 (fun _ z => by cases z), e2.ext ex⟩
    | ins c fs => obtain ⟨A, dx, gs, e1, e2, e3, e4⟩ := h2; exact ⟨A, dx, gs, e1, e _ _ e2 (fun _ z => by cases z), e3, e4.ext ex⟩
abbrev lamCxN (X : Cx) (A : Around) (outer : List PySem.Env) (s : Shared) (H : Hp) (E : XK) (scope : Scope) (f c' : Addr) : Cx :=
  (LamX.lamCx X A outer s H E scope f c').tr [] (fun e s' => wpAny (model X.prog X.w) (A.deeper (LamX.lamEnv X scope s.heap.objs.size f c')) (leaving (LamX.lamEnv X scope s.heap.objs.size f c') e) (fun _ s'' => L2N.CX X.prog X.w outer H s E e s'') (fun e' s'' => L2N.CX X.prog X.w outer H s E e' s'') s')
section
variable {X : Cx} {pins : List (Addr × Obj)} {σ : L2.St} {H HZ : Hp} {s s1 : Shared}
/-- x(), in the def that got the lambda -/
theorem pe_actN {Eg : XK} {Ng : List Str} {qg : Str} {sg : Scope} {g f c' : Addr} {cdg pm ctv : Value} {params : Arguments} {body : Expr} {scope : Scope} {k i : Nat} {a : Str} {pn : List (Addr × Obj)} {xe : Value → Shared → Prop} {W : WX} {tb : XK → TE} {p1 p2 : Pos}
    (I : Inv X pins σ H s) (L : LamX.LamS X.env.scope scope) (hf : s.heap.get? f = some (PySem.W.kla_obj "<lambda>" (X.env.qual ++ "<lambda>") params body scope (cloFrom X.env.cells scope.names []) pm c' ctv)) (hfn : H f = none) (hfr : f ∉ frs X.stack)
    (hbind : bindArgs (PySem.W.kla_fn "<lambda>" (X.env.qual ++ "<lambda>") params body scope (cloFrom X.env.cells scope.names []) pm (.ref c') ctv) ⟨[], []⟩ = pure [])
    (tk : L2N.Takes ((cxOf (L2N.CX X.prog X.w) X.prog X.w X.K X.mg X.base Ng qg sg g cdg X.A X.stack s H Eg).tr pn xe) W) (hr : Room (k + 1) (X.A.deeper (envOfC qg sg s.heap.objs.size g cdg)))
    (hbody : ∀ (A : Around) (outer : List PySem.Env) (s : Shared) (H : Hp) (E : XK), Room k (A.deeper (LamX.lamEnv X scope s.heap.objs.size f c')) → PE (lamCxN X A outer s H E scope f c') body (tb E))
    (hN : Ng[i]? = some a) (hv : Vis sg a) (hd : (a == ("__debug__" : Str)) = false := by decide) (hcd : (a == ("__classdict__" : Str)) = false := by decide) :
    PE ((cxOf (L2N.CX X.prog X.w) X.prog X.w X.K X.mg X.base Ng qg sg g cdg X.A X.stack s H Eg).tr pn xe) (.Call (.Name a p1) [] [] p2)
      (fun σZ HZ Q => σZ[i]? = some (some (.ref f)) ∧ HZ c' = some (LamX.CodeO c' (X.env.qual ++ "<lambda>")) ∧ tb (WE W σZ) σ HZ Q) := by
  refine ⟨fun pinsZ sZ σZ HZ Q IZ h => ?_⟩
  obtain ⟨hs, hc, ht⟩ := h
  refine wpAny_Call_Name_kw (thn ((pe_var (pos := p1) (i := i) hN hv hd hcd).run pinsZ sZ σZ HZ (fun v H1 => v = .ref f ∧ H1 = HZ) IZ ⟨.ref f, hs, rfl, rfl⟩) fun u s1 ⟨v, H1, I1, r1, q1⟩ => ?_)
  obtain ⟨ev, eH⟩ := q1
  subst ev
  rw [eH] at I1
  obtain rfl : u = Value.ref f := r1
  have of1 : s1.heap.get? f = some (PySem.W.kla_obj "<lambda>" (X.env.qual ++ "<lambda>") params body scope (cloFrom X.env.cells scope.names []) pm c' ctv) := I1.base.keep f _ hf hfn hfr (fun z => nomatch (show f ∈ ([] : List Addr) from z))
  refine PySem.W.callWith_F0 ⟨_, _, _, _, of1⟩ ?_
  have un : Un (frs X.stack) [] H HZ s.heap s1.heap := I1.base
  obtain ⟨⟨oc, vs, t, hoc, hdc, hvc⟩, _, _⟩ := I1.hok c' _ hc
  have rc : codeAny (model X.prog X.w) (X.A.deeper (envOfC qg sg s.heap.objs.size g cdg)) (.call (.ref f) ⟨[], []⟩) (CR (L2N.CX X.prog X.w) (envOfC qg sg s.heap.objs.size g cdg :: X.stack) X.prog X.w HZ s1 Q (WE W σZ)) s1 := by
    refine PySem.W.kla_callFunE hr.depth of1 rfl L.co L.gen rfl ⟨c', oc, vs, t, rfl, hoc, hdc, hvc⟩ ?_
    rw [hbind]
    refine wpAny_pure (wpAny_newFunctionEnv (fun y hy => (L.own y hy).2) (fun y hy => absurd hy (by simp)) (fun h₁ hns hsb => ⟨I1.nolimit.fresh _ hsb, ?_⟩) L.kind)
    show codeAny _ _ (.expr body (LamX.lamEnv X scope s1.heap.objs.size f c')) _ _
    have kp : ∀ b o, s1.heap.get? b = some o → h₁.get? b = some o := fun b o e => hsb.extBut b o (Nat.ne_of_lt (Heap.lt_size e)) (Heap.get?_push_of_some _ e)
    have J0 : Inv (LamX.lamCx X (X.A.deeper (envOfC qg sg s.heap.objs.size g cdg)) (envOfC qg sg s.heap.objs.size g cdg :: X.stack) s1 HZ (WE W σZ) scope f c') [] σ HZ { s1 with heap := h₁, toks := s1.toks + ([] : List (Str × Value)).length } :=
      LamX.lam_start2 I L I1.env0 hr.hd un hns kp
    have J := J0.toTry (fun e s' => wpAny (model X.prog X.w) ((X.A.deeper (envOfC qg sg s.heap.objs.size g cdg)).deeper (LamX.lamEnv X scope s1.heap.objs.size f c')) (leaving (LamX.lamEnv X scope s1.heap.objs.size f c') e) (fun _ s'' => L2N.CX X.prog X.w (envOfC qg sg s.heap.objs.size g cdg :: X.stack) HZ s1 (WE W σZ) e s'') (fun e' s'' => L2N.CX X.prog X.w (envOfC qg sg s.heap.objs.size g cdg :: X.stack) HZ s1 (WE W σZ) e' s'') s')
    refine PySem.W.kla_codeExpr (wpAny_mono ((hbody _ _ s1 HZ (WE W σZ) (hr.deeper _)).run [] _ _ HZ Q J ht) (fun v s' hq => ?_) fun e s' hq => hq)
    obtain ⟨w', H', J', rv, q⟩ := hq
    exact ⟨w', H', J'.os, J'.bare, J'.base, J'.hok, rv, q⟩
  have hx := L2N.passAt tk σZ
  refine wpAny_call (codeAny_mono rc fun r s' hq => ?_)
  cases r with
  | error e => exact hx pinsZ HZ s1 e s' I1 hq
  | ok fl =>
    cases fl with
    | ret u => exact I1.after hq
    | next => exact False.elim hq
    | brk => exact False.elim hq
    | cont => exact False.elim hq
end
/-- the def that tries what it gets, and tells the error's names -/
structure HasTry (P : Program) (w : World) (K : PySem.W.Frag) (mg : Str → Option Value) (base : Heap) (T : List (Addr × Str)) (k : Nat) (x : Str) (nm : Exn → Option Str) : Prop where
  ex : ∃ (st : Stmt) (row : Addr → Str → Prop) (CS : Addr), DefFact K mg x st ["call"] ∧ FnScope ["call", "e"] ["call"] (defScope st) ∧
    (∃ (j : Nat) (p1 p2 p3 p4 p5 p6 p7 p8 p9 p10 p11 p12 : Pos), defBody st = [.Try [.Expr (.Call (.Name "call" p1) [] [] p2) p3] [.ExceptHandler (some (.Name "WalkError" p4)) (some "e") [.Return (some (.Call (.Name "_law_names" p5) [.Name "e" p6] [] p7)) p8] p9] [] [] p10, .Return (some (.Constant (.str "") j p11)) p12]) ∧
    (defScope st).names.lookup ("WalkError" : Str) = some .globalImplicit ∧ (defScope st).names.lookup ("_law_names" : Str) = some .globalImplicit ∧ (defScope st).names.lookup ("e" : Str) = some .local ∧ (defScope st).names.lookup ("call" : Str) = some .local ∧
    HasNm P w K mg base T k "_law_names" row ∧ mg "WalkError" = some (.ref CS) ∧
    ∀ x s, nm x = some s → x.arg = none ∧ ∃ D, mg x.cls = some (.ref D) ∧ PySem.W.exmOne K (.ref D) (.ref CS) = some true ∧ row D s
theorem PQ.cut {C : Cv} {E : XK} {Q : VK} {H : Hp} {α : Al} {μ μ1 : Sto} {o : Option W} (h : PQ C E Q H α μ (Mi.ofO o μ1)) : ∃ w, o = some w ∧ PQ C E Q H α μ (.ok w μ1) := by
  cases o with
  | none => exact (show False from h).elim
  | some w => exact ⟨w, rfl, h⟩
theorem noTakes {X : Cx} : L2N.Takes X (fun _ _ _ _ => False) := fun _ _ x => by
  obtain ⟨_, _, _, _, _, _, _, _, _, _, _, _, _, _, _, _, z⟩ := x
  exact z.elim
section
variable {X : Cx} {T : List (Addr × Str)} {E : XK} {j k kn : Nat} {pos : Pos}
theorem de_try {x : Str} {nm : Exn → Option Str} {f : EF} {params : Arguments} {body : Expr} {scope : Scope} {p lpos : Pos} (hT : HasTry X.prog X.w X.K X.mg X.base T kn x nm) (la : LamAt X T) (ck : CK X E j) (hbody : ∀ (A : Around) (outer : List PySem.Env) (s : Shared) (H : Hp) (E : XK) (g c' : Addr), CK (lamCxN X A outer s H E scope g c') E k → DE (lamCxN X A outer s H E scope g c') T E body f)
    (hk : k + 2 ≤ j := by decide) (hkn : kn ≤ k := by decide) (L : LamX.LamS X.env.scope scope := by exact LamX.lamS_by (by kernel_rfl)) (hdef : defaultsOf params X.env = ([], []) := by rfl)
    (hbind : ∀ (q : Str) (cl : List (Str × Addr)) (pm cv ctv : Value), bindArgs (PySem.W.kla_fn "<lambda>" q params body scope cl pm cv ctv) ⟨[], []⟩ = pure [] := by intros; rfl) (hg : Gl X x := by rfl) (hdb : (x == ("__debug__" : Str)) = false := by decide) :
    DE X T E (.Call (.Name x p) [.Lambda params body scope lpos] [] pos) (eTry nm f) := by
  refine ⟨fun pins s σ H Q I ⟨ρ, α, μ, S, sl, q⟩ => ?_⟩
  obtain ⟨st, row, CS, df, Sg, ⟨jj, p1, p2, p3, p4, p5, p6, p7, p8, p9, p10, p11, p12, hB⟩, gW, gN, gE, gC, hn, hW, hnm⟩ := hT.ex
  obtain ⟨g, fd, dvs, kws, Fu, hm, hb⟩ := df.ex
  obtain ⟨oc, od, dV, kV, doc, pm, an, cdv, ct, osl, rfl, lk, hcd, _, _⟩ := Fu.ex
  obtain ⟨c, P, hcode, TB, hmT, hu⟩ := la
  have hr : Room (k + 2) X.A := ck.room.mono hk
  refine wpAny_Call_Name_kw (ld_glob I hg hm ?_ hdb)
  refine PySem.W.callWith_K (h₀ := X.base) I.ok.mod.kin Fu.kp ?_ (by rfl) (by rfl)
  show wpAny _ _ (spliced ((false, eval (.Lambda params body scope lpos) X.env) :: backTo pos (starEach [] X.env))) _ _ s
  refine Calls.spliced_cons (LamX.lam_make2 I TB hcode hmT hu S.tabs hdef (L.has I.ok) fun f' c' pm' ctv H1 s' I1 eN T1 hf hfn hfr hco => ?_)
  refine Calls.spliced_nil ⟨I1.kIn, ?_⟩
  obtain ⟨st1, S1⟩ := extN_step S eN T1
  have sl1 := sl.step st1
  have q1 := PQ.step q st1
  have rc : codeAny (model X.prog X.w) X.A (.call (.ref g) ⟨[.ref f'], []⟩) (CR (L2N.CX X.prog X.w) X.stack X.prog X.w H1 s' Q E0) s' := by
    refine LamX.run_ofS (N := ["call", "e"]) (ps := ["call"]) (us := [.ref f']) (vs := [.ref f']) lk hcd Sg hr I1.env0 (hb s' [.ref f'] I1.kIn rfl) (.cons rfl .nil) rfl fun hr' => ?_
    rw [hB]
    have hB2 : ∀ (A : Around) (outer : List PySem.Env) (s2 : Shared) (H2 : Hp) (E2 : XK), Room k (A.deeper (LamX.lamEnv X scope s2.heap.objs.size f' c')) → PE (lamCxN X A outer s2 H2 E2 scope f' c') body (tD (CvX X T) E2 f) := fun A outer s2 H2 E2 hr2 =>
      hbody A outer s2 H2 E2 f' c' ⟨rfl, ck.nd, hr2, L2N.takes_of rfl rfl rfl rfl⟩
    refine ⟨_, pss_cons (L2N.ps_try_as (X := cxOf (L2N.CX X.prog X.w) X.prog X.w X.K X.mg X.base ["call", "e"] x (defScope st) g cdv X.A X.stack s' H1 E0) (i := 1) (c := .ref CS)
      (tb := fun W => tDrop (fun σZ HZ Q => σZ[0]? = some (some (.ref f')) ∧ HZ c' = some (LamX.CodeO c' (X.env.qual ++ "<lambda>")) ∧ tD (CvX X T) (WE W σZ) f σ HZ Q))
      (ts := fun a cls d D σ H => ∃ D0 nm, cls = .ref D0 ∧ d = none ∧ row D0 nm ∧ σ[1]? = some (some (.ref a)) ∧ ∃ α μ, Stor (CvX X T) H α μ ∧ PQ (CvX X T) E0 D.rt H α μ (.ok (.d (.str nm)) μ))
      (Wout := fun _ _ _ _ => False) rfl rfl Sg.nd rfl gE ⟨gW, by decide, .inl hW⟩ noTakes (fun W pn xe tk _ => pss_one (ps_expr (pe_actN I1 L hf hfn hfr (hbind _ _ _ _ _) tk hr' hB2 rfl (.inl gC)) rfl)) fun a oe cls d pn hz hfl => ?_) (pss_one (ps_ret pe_str)), ?_⟩
    · refine ⟨fun pins2 s2 σ2 H2 D2 I2 h2 => ?_⟩
      obtain ⟨D0, nm0, rfl, rfl, hrow, hs, α2, μ2, S2, q2⟩ := h2
      obtain ⟨vs, hv⟩ := hfl
      have hrm : L2H.RoomH kn ((X.A.deeper (envOfC x (defScope st) s'.heap.objs.size g cdv)).mark (some (.ref a))) := L2H.RoomH.mono ⟨hr'.dp, hr'.un⟩ (by omega)
      exact (pss_one (ps_ret (pe_nm (X := (cxOf (L2N.CX X.prog X.w) X.prog X.w X.K X.mg X.base ["call", "e"] x (defScope st) g cdv X.A X.stack s' H1 E0).suite a ((a, oe) :: pn)) (i := 1) hn hrm (a0 := a) (oe := oe) ⟨rfl, vs, hv, hz.2.2 vs hv⟩ List.mem_cons_self hz.zc hrow rfl (.inl gE) gN))).run pins2 s2 σ2 H2 D2 I2 ⟨hs, α2, μ2, S2, q2⟩
    · refine ⟨rfl, hco, ρ, α, μ, S1, sl1, ?_⟩
      have q1 : PQ (CvX X T) E Q H1 α μ (match f ρ μ with
        | .ok _ μ1 => .ok (.d (.str "")) μ1
        | .er x μ1 => ofO ((nm x).map fun s => W.d (.str s)) μ1
        | .no => .no) := q1
      cases e : f ρ μ with
      | no => rw [e] at q1; exact q1.elim
      | ok w μ1 =>
        rw [e] at q1
        exact fun v H' α' st2 S2 _ => q1 (.str "") H' α' st2 S2 (.str _)
      | er y μ1 =>
        rw [e] at q1
        have q1 : PQ (CvX X T) E Q H1 α μ (ofO ((nm y).map fun s => W.d (.str s)) μ1) := q1
        obtain ⟨z, ez, q2⟩ := PQ.cut q1
        cases en : nm y with
        | none => rw [en] at ez; cases ez
        | some t =>
          rw [en] at ez
          cases ez
          obtain ⟨ha, D0, hm0, hx0, hrow⟩ := hnm y t en
          intro cls d H' α' st2 S2 rx
          obtain ⟨r1, r2⟩ := rx
          have r1 : X.mg y.cls = some cls := r1
          rw [hm0] at r1
          cases r1
          rw [ha] at r2
          obtain rfl := r2
          exact ⟨true, hx0, fun _ a na => ⟨D0, t, rfl, rfl, hrow, rfl, α', μ1, S2, fun v H3 α3 st3 S3 r3 => q2 v H3 α3 (st2.trans st3) S3 r3⟩, fun z => nomatch z⟩
  refine wpAny_call (codeAny_mono rc fun r s2 hq => ?_)
  cases r with
  | error e =>
    obtain ⟨_, _, _, _, _, _, _, _, _, _, _, _, z⟩ := hq
    exact z.elim
  | ok fl =>
    cases fl with
    | ret u => exact I1.after hq
    | next => exact False.elim hq
    | brk => exact False.elim hq
    | cont => exact False.elim hq
end
/-- what isinstance answers of the class at D -/
structure NmRow (K : PySem.W.Frag) (mg : Str → Option Value) (D : Addr) (b : Nat → Bool) : Prop where
  exc : ExcC K D
  own : ∀ (i : Nat) (x : Str) (A : Addr), ownCls[i]? = some x → mg x = some (.ref A) → PySem.W.kitOne K (.ref D) (.ref A) = some (b i)
  val : PySem.W.kitOne K (.ref D) (.type "ValueError") = some (b 16)
def NmR (K : PySem.W.Frag) (mg : Str → Option Value) : Addr → Str → Prop := fun D s => ∃ i, labs[i]? = some s ∧ NmRow K mg D (bOf i)
/-- what is known of an own class that is raised -/
def ClsRow (K : PySem.W.Frag) (mg : Str → Option Value) (x : Str) : Prop := ∃ i D CS, ownCls.idxOf? x = some i ∧ mg x = some (.ref D) ∧ mg "WalkError" = some (.ref CS) ∧ PySem.W.exmOne K (.ref D) (.ref CS) = some true ∧ NmRow K mg D (bOf i)
section
variable {P : Program} {w : World} {K : PySem.W.Frag} {mg : Str → Option Value} {base : Heap} {T : List (Addr × Str)} {k : Nat}
theorem try_ok {st : Stmt} {cl : List Str} (df : DefFact K mg "_law_error" st ["call"]) (Sg : FnScope ["call", "e"] ["call"] (defScope st))
    (hB : ∃ (j : Nat) (p1 p2 p3 p4 p5 p6 p7 p8 p9 p10 p11 p12 : Pos), defBody st = [.Try [.Expr (.Call (.Name "call" p1) [] [] p2) p3] [.ExceptHandler (some (.Name "WalkError" p4)) (some "e") [.Return (some (.Call (.Name "_law_names" p5) [.Name "e" p6] [] p7)) p8] p9] [] [] p10, .Return (some (.Constant (.str "") j p11)) p12])
    (g1 : (defScope st).names.lookup ("WalkError" : Str) = some .globalImplicit) (g2 : (defScope st).names.lookup ("_law_names" : Str) = some .globalImplicit) (g3 : (defScope st).names.lookup ("e" : Str) = some .local) (g4 : (defScope st).names.lookup ("call" : Str) = some .local)
    (hn : HasNm P w K mg base T k "_law_names" (NmR K mg)) (hW : ∃ CS, mg "WalkError" = some (.ref CS)) (hc : ∀ x ∈ cl, ClsRow K mg x) : HasTry P w K mg base T k "_law_error" (nmC cl) := by
  obtain ⟨CS, hW⟩ := hW
  refine ⟨st, NmR K mg, CS, df, Sg, hB, g1, g2, g3, g4, hn, hW, fun x s h => ?_⟩
  unfold nmC at h
  split at h
  · cases h
  · rename_i ha
    split at h
    · rename_i hx
      obtain ⟨i, D, CS', h1, h2, h3, h4, h5⟩ := hc x.cls (by simpa using hx)
      rw [h1] at h
      rw [h3] at hW
      cases hW
      exact ⟨ha, D, h2, h4, i, h, h5⟩
    · cases h
end
/-! ### a def with lambdas -/
def qLam (x : Str) : Str := x ++ ".<locals>." ++ "<lambda>"
/-- .. its function object told -/
structure DefL (K : PySem.W.Frag) (mg : Str → Option Value) (base : Heap) (T : List (Addr × Str)) (x : Str) (st : Stmt) (ps : List Str) (f : Addr) (fd : FuncData) : Prop where
  fu : ∃ dvs kws, FunD K x x (defArgs st) (defBody st) (defScope st) dvs kws f fd
  hm : mg x = some (.ref f)
  hb : Binds K fd ps []
  code : ∃ c P, fd.code = .ref c ∧ LamX.TabB base mg c P ∧ (P, qLam x) ∈ T ∧ ∀ p ∈ T, p.1 = P → p.2 = qLam x
section
variable {P : Program} {w : World} {K : PySem.W.Frag} {mg : Str → Option Value} {base : Heap} {T : List (Addr × Str)}
theorem fn_okF {x : Str} {st : Stmt} {N ps : List Str} {k : Nat} {F : SF} {f : Addr} {fd : FuncData} (d : DefL K mg base T x st ps f fd) (S : FnScope N ps (defScope st))
    (hbody : ∀ (f : Addr) (cdv : Value) (A : Around) (outer : List PySem.Env) (s : Shared) (H : Hp) (E : XK), CK (cxOf (L2N.CX P w) P w K mg base N x (defScope st) f cdv A outer s H E) E k →
      PassesOwn (model P w) (cxOf (L2N.CX P w) P w K mg base N x (defScope st) f cdv A outer s H E).A (cxOf (L2N.CX P w) P w K mg base N x (defScope st) f cdv A outer s H E).env (cxOf (L2N.CX P w) P w K mg base N x (defScope st) f cdv A outer s H E).xe →
      LamAt (cxOf (L2N.CX P w) P w K mg base N x (defScope st) f cdv A outer s H E) T →
      DSs (cxOf (L2N.CX P w) P w K mg base N x (defScope st) f cdv A outer s H E) T E (defBody st) F) : FnOk P w K mg base (L2N.CX P w) (k + 1) f fd ps (spD ⟨K, mg, T⟩ (fnOf ps.length N.length F)) := by
  obtain ⟨⟨dvs, kws, Fu⟩, hm, hb, c, PP, hcd, TB, hT, hu⟩ := d
  obtain ⟨oc, od, dV, kV, doc, pm, an, cdv, ct, osl, rfl, lk, hcdi, _, _⟩ := Fu.ex
  obtain rfl : cdv = .ref c := hcd
  refine fn_of lk hcdi S (fun vs H Q E h => ?_) fun A outer s H vs Q E hr h => ?_
  · obtain ⟨ws, α, μ, S, rs, q⟩ := h
    unfold fnOf at q
    split at q
    · rename_i hl
      rw [rs.length]
      exact hl
    · exact q.elim
  · obtain ⟨ws, α, μ, St, rs, q⟩ := h
    have tk : L2N.Takes (cxOf (L2N.CX P w) P w K mg base N x (defScope st) f (.ref c) A outer s H E) (fun cls d _ H => E cls d H) := L2N.takes_of rfl rfl rfl rfl
    refine ⟨_, hbody f (.ref c) A outer s H E ⟨rfl, S.nd, hr, tk⟩ (passes_of rfl) ⟨c, PP, rfl, TB, hT, hu⟩, ?_⟩
    unfold fnOf at q
    split at q
    · rename_i hl
      refine ⟨startE N.length ws, α, μ, St, ⟨?_, ?_⟩, fin_ok (D := { nx := fun _ H' => Q .non H', rt := Q }) St ⟨rfl, rfl⟩ q⟩
      · have e := rs.length
        simp only [startE, L2.start, List.length_append, List.length_map, List.length_replicate, e]
      · have e := rs.length
        have z := Sl.start rs (N.length - ws.length)
        unfold startE L2.start
        rw [e]
        exact z
    · exact q.elim
/-- .. not told which -/
structure LamF (K : PySem.W.Frag) (mg : Str → Option Value) (base : Heap) (T : List (Addr × Str)) (x : Str) (st : Stmt) (ps : List Str) : Prop where
  ex : ∃ f fd, DefL K mg base T x st ps f fd
theorem DefL.has {x : Str} {st : Stmt} {ps : List Str} {k : Nat} {f : Addr} {fd : FuncData} {g : GF} (d : DefL K mg base T x st ps f fd) (h : FnOk P w K mg base (L2N.CX P w) k f fd ps (spD ⟨K, mg, T⟩ g)) : HasFn P w K mg base T k x g := by
  obtain ⟨⟨dvs, kws, Fu⟩, hm, hb, _⟩ := d
  exact ⟨f, fd, ps, [], [], [], _, hm, Fu.kp, hb, .nil, fun _ _ => .nil, fun ws μ => by rw [List.map_nil, List.append_nil], h⟩
theorem fn_okL {x : Str} {st : Stmt} {N ps : List Str} {k : Nat} {F : SF} (d : LamF K mg base T x st ps) (S : FnScope N ps (defScope st))
    (hbody : ∀ (f : Addr) (cdv : Value) (A : Around) (outer : List PySem.Env) (s : Shared) (H : Hp) (E : XK), CK (cxOf (L2N.CX P w) P w K mg base N x (defScope st) f cdv A outer s H E) E k →
      PassesOwn (model P w) (cxOf (L2N.CX P w) P w K mg base N x (defScope st) f cdv A outer s H E).A (cxOf (L2N.CX P w) P w K mg base N x (defScope st) f cdv A outer s H E).env (cxOf (L2N.CX P w) P w K mg base N x (defScope st) f cdv A outer s H E).xe →
      LamAt (cxOf (L2N.CX P w) P w K mg base N x (defScope st) f cdv A outer s H E) T →
      DSs (cxOf (L2N.CX P w) P w K mg base N x (defScope st) f cdv A outer s H E) T E (defBody st) F) : HasFn P w K mg base T (k + 1) x (fnOf ps.length N.length F) := by
  obtain ⟨f, fd, tl⟩ := d.ex
  exact tl.has (fn_okF tl S hbody)
end
end L3

set_option Elab.async false
set_option linter.all false
set_option maxRecDepth 100000
set_option maxHeartbeats 2000000
/-! Defs as values: a comprehension over several defs, a call of a name that holds one. -/
namespace L3
open PySem PySem.Spec PyProof.Rows L2 Mi
section
variable {X : Cx} {T : List (Addr × Str)} {E : XK} {j : Nat} {pos : Pos} {a : Expr} {es : List Expr} {f g : EF} {r : AF}
theorem RpWs.get {C : Cv} {H : Hp} {α : Al} {μ : Sto} : ∀ {vs : List V} {ws : List W} {i : Nat} {w : W}, RpWs C H α μ vs ws → ws[i]? = some w → ∃ v, vs[i]? = some v ∧ RpW C H α μ v w
  | _, _, _, _, .nil, e => by simp at e
  | _, _, 0, _, .cons r _, e => by simp at e; subst e; exact ⟨_, rfl, r⟩
  | _, _, i + 1, w, .cons _ t, e => by
    obtain ⟨v, h1, h2⟩ := RpWs.get (i := i) (w := w) t (by simpa using e)
    exact ⟨v, by simpa using h1, h2⟩
theorem rpw_inv {C : Cv} {P : Addr} {H1 H2 : Hp} {α1 α2 : Al} {μ1 μ2 : Sto} {n : Nat} {accD : List PyData} {acc : List V} (I : LcInv C P H1 α1 μ1 n accD H2 α2 μ2 acc) {v : V} {w : W} (h : RpW C H1 α1 μ1 v w) : RpW C H2 (α2.hide P) μ2 v w := by
  cases w with
  | d d => exact Rp.ext I.ext h
  | m k => obtain ⟨a, h3, h4⟩ := h; exact ⟨a, I.pre _ _ h3, h4⟩
  | f x => exact h
  | x k => exact h
  | e c y => exact RpW.exte I.ext h
  | es l => exact RpW.extes I.ext h
theorem wipe_set {σ : L2.St} {vs : List Nat} {i : Nat} {o : Option V} (h : i ∈ vs) : L2.wipe ((L2.wipe σ vs).set i o) vs = L2.wipe σ vs := by
  refine List.ext_getElem? fun k => ?_
  rw [wipe_at, wipe_at, List.getElem?_set]
  by_cases hk : k ∈ vs
  · rw [if_pos hk, if_pos hk, L2.wipe_length]
    by_cases e : i = k
    · subst e
      rw [if_pos rfl]
      by_cases hl : i < σ.length
      · rw [if_pos hl, List.getElem?_eq_getElem hl]
        rfl
      · rw [if_neg hl, List.getElem?_eq_none (by omega)]
    · rw [if_neg e, wipe_at, if_pos hk, Option.map_map]
      rfl
  · rw [if_neg hk, if_neg hk, if_neg (fun e => hk (by rw [← e]; exact h)), wipe_at, if_neg hk]
theorem lcW_rd {vs : List Nat} {i : Nat} {σ : L2.St} {H : Hp} {Q : VK} (hr : DA X T E es r) (hl : es.length ≤ 1000) (hw : i ∈ vs) (q : tD (CvX X T) E (eLcW vs i r g) σ H Q) :
    tLc (iTup X.K (tTup (tDs (CvX X T) E r))) (gName i) tYes (tD (CvX X T) E0 g) vs σ H Q := by
  obtain ⟨ρ, α, μ, S, sl, q⟩ := q
  refine hr.read (C := CvX X T) (k := fun ws μ1 => lcW i g (wipeE ρ vs) ws [] μ1) S sl q fun us ws H0 α1 μ1 st0 S0 sl0 rs0 ln q1 => ?_
  refine ⟨by rw [rs0.length, ln]; exact Nat.le_trans hl (by decide), fun p np => ⟨p, rfl, ⟨us, .inl (.inl upd_same)⟩, fun P nP => ?_⟩⟩
  have sm := same_upd (o := .tup us) np
  have st1 := Same.step S0 sm
  have S1 := S0.same sm
  have sl1 := sl0.step st1
  have rs := rs0.step st1
  have hT : SqT X.K (upd H0 p (.tup us)) p us := .inl (.inl upd_same)
  replace q1 := PQ.step q1 st1
  generalize upd H0 p (.tup us) = H1 at *
  have lim : us.length ≤ sizeLine := by rw [rs0.length, ln]; exact Nat.le_trans hl (by decide)
  have hlen := rs.length
  have I0 : LcInv (CvX X T) P H1 α1 μ1 0 [] (upd H1 P (.lst [])) α1 μ1 [] :=
    ⟨stor_hide S1 nP, ext_hide S1 nP, fun _ _ h => h, rfl, (Same.step S1 (same_upd nP)).keep, upd_same, Nat.le_refl _, .nil⟩
  refine ⟨fun n m H2 => m = ws.length - n ∧ n ≤ ws.length ∧ ∃ α2 μ2 acc accD, LcInv (CvX X T) P H1 α1 μ1 n accD H2 α2 μ2 acc ∧ PQ (CvX X T) E Q H1 α1 μ1 (lcW i g (wipeE ρ vs) (ws.drop n) accD μ2),
    ⟨ws.length, rfl, Nat.zero_le _, α1, μ1, [], [], I0, q1⟩, ?_⟩
  rintro n m H2 ⟨rfl, hi, α2, μ2, acc, accD, I2, q2⟩
  have hT2 : SqT X.K H2 p us := I2.ext.sqT hT
  by_cases hlt : n < ws.length
  · obtain ⟨w, hd⟩ : ∃ w, ws[n]? = some w := ⟨ws[n], List.getElem?_eq_getElem hlt⟩
    have ed : ws.drop n = w :: ws.drop (n + 1) := by
      rw [List.drop_eq_getElem_cons hlt]
      congr 1
      rw [List.getElem?_eq_getElem hlt] at hd
      exact Option.some.inj hd
    rw [ed] at q2
    obtain ⟨v, hv, rv⟩ := rs.get hd
    refine .inr ⟨⟨us, v, hT2, hv⟩, fun H3 => n + 1 ≤ ws.length ∧ ∃ α2 μ2 acc accD, LcInv (CvX X T) P H1 α1 μ1 (n + 1) accD H3 α2 μ2 acc ∧ PQ (CvX X T) E Q H1 α1 μ1 (lcW i g (wipeE ρ vs) (ws.drop (n + 1)) accD μ2), fun H3 n => ⟨_, by omega, rfl, n⟩, fun x H3 yy => ?_⟩
    obtain ⟨rfl, yy⟩ := yy
    have ex := yy us hT2
    rw [hv] at ex
    cases ex
    have sl3 : Sl (CvX X T) H3 (α2.hide P) μ2 (L2.wipe σ vs) (wipeE ρ vs) := by
      have z := sl1.wipe vs
      refine ⟨z.len, fun i w h => ?_⟩
      obtain ⟨v, h1, h2⟩ := z.at_ i w h
      exact ⟨v, h1, rpw_inv I2 h2⟩
    have sl4 := sl3.set (rpw_inv I2 rv) i
    refine ⟨wipe_set hw, ?_⟩
    dsimp only [tYes]
    rw [if_pos rfl]
    unfold lcW at q2
    refine ⟨(wipeE ρ vs).set i (some w), α2.hide P, μ2, I2.stor, sl4, ?_⟩
    split at q2
    · rename_i z μ6 eg
      rw [eg]
      intro v6 H6 α6 st6 S6 r6
      obtain ⟨α7, e7, I7⟩ := I2.go st6 S6
      subst e7
      exact ⟨acc, I7.list, Nat.lt_of_le_of_lt I7.len (Nat.lt_of_lt_of_le hlt (by rw [← hlen]; exact lim)), hlt, α7, μ6, _, _, I7.put nP S1 r6, q2⟩
    · exact q2.elim
  · have e0 : ws.drop n = [] := List.drop_eq_nil_of_le (by omega)
    rw [e0] at q2
    refine .inl ⟨⟨us, hT2, by omega⟩, q2 _ H2 α2 I2.st (stor_unhide I2.stor) (.lst (.inl I2.list) (fun z => ?_) (I2.rep.ext ext_unhide))⟩
    have hn := (nodup_hide I2.stor).1
    rcases z with ⟨k, c, h1, h2⟩ | z
    · exact hn (List.mem_append_left _ (List.mem_of_getElem? h1))
    · exact hn (List.mem_append_right _ z)
theorem de_lcW {i : Nat} {x : Str} {p p2 : Pos} {kk : Nat} {elt : Expr} {scope : Scope} {own : List (Str × Nat)} (ck : CK X E j) (hr : DA X T E es r) (ok : BlkOk X.N X.env.scope scope own)
    (hg : ∀ (s : Shared) (H : Hp) (D : Addr) (cl : List (Str × Addr)) (fp : List Addr), PG (X.blk s H scope (compEnvC scope cl D X.env) fp) (.Name x p) (gName i))
    (he : ∀ (s : Shared) (H : Hp) (D : Addr) (cl : List (Str × Addr)) (fp : List Addr), CK (X.blk s H scope (compEnvC scope cl D X.env) fp) E0 j → DE (X.blk s H scope (compEnvC scope cl D X.env) fp) T E0 elt g)
    (hw : i ∈ own.map (·.2) := by decide) (hl : es.length ≤ 1000 := by decide) (hs : ∀ x, foldedSetIterable (.Tuple es kk p2) X.env x = pure x := by intro _; rfl) :
    DE X T E (.ListComp elt [⟨.Name x p, .Tuple es kk p2, [], 0⟩] scope pos) (eLcW (own.map (·.2)) i r g) :=
  pe_imp (pe_lc (g := gName i) (tt := tYes) (te := tD (CvX X T) E0 g) ck.calm ck.nd (pi_tup (pe_tup hr.pa)) ok hg (fun s H D cl fp => pts_nil) (fun s H D cl fp => he s H D cl fp (ck.blk s H scope _ fp)) hs) fun σ H Q q => lcW_rd hr hl hw q
theorem de_callV (i : Nat) {x : Str} {p : Pos} {k : Nat} {gs : List (Str × GF)} (ck : CK X E j) (hf : ∀ y g, gs.lookup y = some g → HasFn X.prog X.w X.K X.mg X.base T k y g) (hr : DA X T E (a :: es) r) (hk : k ≤ j := by decide)
    (hN : X.N[i]? = some x := by rfl) (hv : Vis X.env.scope x := by first | exact Or.inl rfl | exact Or.inr (Or.inl rfl) | exact Or.inr (Or.inr rfl)) (hdb : (x == ("__debug__" : Str)) = false := by decide) (hcd : (x == ("__classdict__" : Str)) = false := by decide)
    (he : starEach (a :: es) X.env = (false, eval a X.env) :: starEach es X.env := by rfl) (hpl : (backTo pos (starEach es X.env)).any (·.1) = false := by rfl) : DE X T E (.Call (.Name x p) (a :: es) [] pos) (eCallV i gs r) := by
  refine ⟨fun pins s σ H Q I ⟨ρ, α, μ, S, sl, q⟩ => ?_⟩
  unfold eCallV at q
  split at q
  · rename_i y e
    obtain ⟨v, hs, A, hA, rfl⟩ := sl.at_ i _ e
    split at q
    · rename_i gf eg
      obtain ⟨f, fd, ps, ds, dvs, dd, g0, h1, h2, h3, h4, h5, h6, h7⟩ := (hf y gf eg).ex
      have hA : X.mg y = some (.ref A) := hA
      rw [h1] at hA
      cases hA
      refine (pe_callL h7 (ck.room.mono hk) hN hv h2 h3 h4 ck.passes hr.pa hdb hcd he hpl).run pins s σ H Q I ⟨hs, ?_⟩
      refine hr.read (C := CvX X T) S sl q fun vs ws H1 α1 μ1 st S1 sl1 rs ln q1 => ?_
      rw [h6] at q1
      exact ⟨ws ++ dd.map W.d, α1, μ1, S1, rs.append (RpAll.ws (h5 _ _)), q1⟩
    · exact (show False from q).elim
  · exact (show False from q).elim
theorem truV_of {C : Cv} {H : Hp} {M : Addr → Prop} {v : V} {d : PyData} {k : Bool} (r : RpT C.K H M v d) (e : truD d = some k) : TruV C.K v H k := by
  unfold truD at e
  split at e
  · cases e; rw [r.none]; exact (rfl : false = false)
  · cases e; rw [r.bl]; exact (rfl : k = k)
  · cases e; rw [r.int]; exact rfl
  · split at e
    · rename_i hl
      cases e; rw [r.str]; exact ⟨lim_line hl, rfl⟩
    · cases e
  · cases e
    obtain ⟨a, xs, rfl, h, rr⟩ := r.list
    refine .inl ⟨xs, .inl h, ?_⟩
    cases rr <;> rfl
  · cases e
    obtain ⟨a, xs, rfl, h, rr⟩ := r.tuple
    refine .inr (.inl ⟨xs, h, ?_⟩)
    cases rr <;> rfl
  · cases e
theorem de_notT (ha : DE X T E a f) : DE X T E (.UnaryOp .Not a pos) (eNotT f) :=
  pe_imp (pe_notT ha) fun σ H Q ⟨ρ, α, μ, S, sl, q⟩ => tD_bind S sl q fun v w H1 α1 μ1 st S1 sl1 r1 q1 => by
    obtain ⟨z, e, q2⟩ := PQ.ofO q1
    cases e1 : Mi.view μ1 w with
    | none => rw [e1] at e; cases e
    | some d =>
      rw [e1] at e
      cases e2 : truD d with
      | none => simp [e2] at e
      | some k =>
        simp [e2] at e
        subst e
        exact ⟨k, truV_of (r1.view S1 e1) e2, q2 _ H1 α1 (.refl _ _ _) S1 (.bl _)⟩
theorem de_fnx {x : Str} {st : Stmt} {ps : List Str} (d : DefFact X.K X.mg x st ps) (hg : Gl X x := by rfl) (hd : (x == ("__debug__" : Str)) = false := by decide) : DE X T E (.Name x pos) (eFn x) := by
  obtain ⟨f, fd, dvs, kws, Fu, hm, hb⟩ := d.ex
  exact de_fn hm hg hd
theorem de_catM {b : Expr} (ha : DE X T E a f) (hb : DE X T E b g) : DE X T E (.BinOp a .Add b pos) (eCatM f g) :=
  pe_imp (pe_op op_catR ha hb) fun σ H Q ⟨ρ, α, μ, S, sl, q⟩ => tD_bind S sl q fun v w H1 α1 μ1 st1 S1 sl1 r1 q1 => tD_bind S1 sl1 q1 fun u w2 H2 α2 μ2 st2 S2 sl2 r2 q2 => by
    have r1 := r1.step st2
    split at q2
    · rename_i x y e1 e2
      split at q2
      · rename_i hl
        obtain ⟨p1, xs, rfl, h1, s1⟩ := (r1.view S2 e1).list
        obtain ⟨p2, ys, rfl, h2, s2⟩ := (r2.view S2 e2).list
        refine ⟨p1, p2, xs, ys, rfl, rfl, h1, h2, by rw [s1.length, s2.length]; exact lim_line hl, fun p np => ?_⟩
        exact q2 _ _ _ (step_push S2 np) (stor_push S2 np (s1.append s2)) ⟨p, by show (α2.own ++ [p])[_]? = _; rw [← S2.len]; simp, rfl⟩
      · exact (show False from q2).elim
    · exact (show False from q2).elim
/-- ahead of a statement: a list that is not changed any more -/
theorem ds_frz (i : Nat) {st : Stmt} {F : SF} (h : DS X T E st F) : DS X T E st (sSeq (sFrz i) F) :=
  ps_imp h fun D σ H ⟨ρ, α, μ, S, sl, q⟩ => by
    unfold sSeq sFrz at q
    split at q
    · rename_i ρ1 μ1 e
      split at e
      · rename_i k ek
        split at e
        · rename_i l el
          cases e
          obtain ⟨v, h1, a, ha, rfl⟩ := sl.at_ i _ ek
          obtain ⟨st2, S2, r2⟩ := own_give S (mlist_at el) ha
          have z := (sl.step st2).set (w := .d (.list l)) r2 i
          have es : σ.set i (some (.ref a)) = σ := by
            refine List.ext_getElem? fun j => ?_
            by_cases hj : i = j
            · subst hj
              rw [List.getElem?_set_self (List.getElem?_eq_some_iff.mp h1).1, h1]
            · rw [List.getElem?_set_ne hj]
          rw [es] at z
          exact ⟨_, _, _, S2, z, QS.step q st2⟩
        · cases e
      · cases e
    · rename_i hne
      split at q
      · rename_i k ek
        split at q
        · rename_i l el
          exact absurd (by rw [ek]; dsimp only; rw [el]) (hne _ _)
        · exact (show False from q).elim
      · exact (show False from q).elim
/-- a, b = x, y where a comprehension or a lambda sees a or b: by a tuple -/
theorem ds_parT (i k : Nat) {a b : Expr} {x y : Str} {px py pt : Pos} {kt k2 pt2} (ck : CK X E j) (ha : DE X T E a f) (hb : DE X T E b g) (hi : X.N[i]? = some x := by rfl) (hj : X.N[k]? = some y := by rfl)
    (hx : Loc X.env.scope x := by first | exact Or.inl rfl | exact Or.inr rfl) (hy : Loc X.env.scope y := by first | exact Or.inl rfl | exact Or.inr rfl)
    (hfx : X.fn x = true ∨ X.env.scope.names.lookup x = some .local := by first | exact Or.inl rfl | exact Or.inr rfl) (hfy : X.fn y = true ∨ X.env.scope.names.lookup y = some .local := by first | exact Or.inl rfl | exact Or.inr rfl)
    (hw : swappedStores [.Tuple [.Name x px, .Name y py] kt pt] (.Tuple [a, b] k2 pt2) X.env = pure none := by rfl)
    (hs : swapsWithSole [.Tuple [.Name x px, .Name y py] kt pt] (.Tuple [a, b] k2 pt2) pos.line X.env = pure false := by rfl)
    (hs1 : starEach [a, b] X.env = (false, eval a X.env) :: starEach [b] X.env := by rfl) (hs2 : starEach [b] X.env = (false, eval b X.env) :: starEach [] X.env := by rfl) :
    DS X T E (.Assign [.Tuple [.Name x px, .Name y py] kt pt] (.Tuple [a, b] k2 pt2) pos) (sPar i k f g) :=
  ps_imp (ps_asg (pe_tup (pa_cons ha (pa_cons hb pa_nil hs2) hs1)) (pg_tup ck.calm (pgs_cons (pg_name ck.nd hi hx hfx) (pgs_cons (pg_name ck.nd hj hy hfy) pgs_nil))) hs hw) fun D σ H ⟨ρ, α, μ, S, sl, q⟩ =>
    tD_bindS S sl q fun v w H1 α1 μ1 st S1 sl1 r q1 => tD_bindS S1 sl1 q1 fun v2 w2 H2 α2 μ2 st2 S2 sl2 r2 q2 => by
      refine ⟨(by decide : 2 ≤ sizeLine), fun p np => ⟨p, [v, v2], rfl, .inl (.inl upd_same), rfl, v, [v2], rfl, v2, [], rfl, rfl, ?_⟩⟩
      have sm := same_upd (o := .tup [v, v2]) np
      have st3 := Same.step S2 sm
      exact QS.nx (S2.same sm) (((sl2.set (r.step st2) i).set r2 k).step st3) (QS.step q2 st3)
/-- defs that a name may hold -/
theorem held_nil {P : Program} {w : World} {K : PySem.W.Frag} {mg : Str → Option Value} {base : Heap} {k : Nat} : ∀ (y : Str) (g : GF), ([] : List (Str × GF)).lookup y = some g → HasFn P w K mg base T k y g := fun y g e => by cases e
theorem held_cons {P : Program} {w : World} {K : PySem.W.Frag} {mg : Str → Option Value} {base : Heap} {k : Nat} {x : Str} {g0 : GF} {gs : List (Str × GF)} (h : HasFn P w K mg base T k x g0) (r : ∀ (y : Str) (g : GF), gs.lookup y = some g → HasFn P w K mg base T k y g) :
    ∀ (y : Str) (g : GF), ((x, g0) :: gs).lookup y = some g → HasFn P w K mg base T k y g := fun y g e => by
  rw [List.lookup_cons] at e
  split at e
  · rename_i hb
    cases e
    have : y = x := by simpa using hb
    subst this
    exact h
  · exact r y g e
end
end L3

set_option Elab.async false
set_option linter.all false
set_option maxRecDepth 100000
set_option maxHeartbeats 2000000
/-! t[::-1] of a tuple. -/
namespace L3
open PySem PySem.Spec PyProof.Rows L2 Mi HT
section
variable {prog : Program} {w : World} {A : Around} {E : Value → Shared → Prop} {s : Shared}
theorem sliceApplied_rev {sl : Addr} {vs : Value} {n : Nat} {Q : Int × Int × Nat → Shared → Prop} (hs : s.heap.IsSliceOf sl .none .none vs) (ps : IsPart vs (some (-1)))
    (h : Q ((n : Int) - 1, -1, n) s) : wpAny (model prog w) A (Builtin.Slice.sliceApplied (.ref sl) (pure (n : Int))) Q E s := by
  obtain ⟨os, hos, hcs, hds⟩ := id hs
  unfold Builtin.Slice.sliceApplied Builtin.Slice.sliceFields
  refine wpAny_bind (wpAny_bind (wpAny_field hos hds (x := .none) rfl (wpAny_bind (wpAny_field hos hds (x := .none) rfl (wpAny_bind (wpAny_field hos hds (x := vs) rfl (wpAny_pure ?_)))))))
  refine wpAny_bind (slicePart_ ps ?_)
  show wpAny _ _ (if ((-1 : Int) == 0) = true then _ else _) _ _ s
  rw [if_neg (by decide)]
  refine wpAny_bind (slicePart_none (wpAny_bind (slicePart_none (wpAny_bind (wpAny_pure ?_)))))
  have e1 : Builtin.Slice.sliceAdjust none none (-1) (n : Int) = ((n : Int) - 1, -1) := by
    simp [Builtin.Slice.sliceAdjust]
  show wpAny _ _ (match Builtin.Slice.sliceAdjust none none (-1) (n : Int) with | (lo, hi) => pure (lo, (-1 : Int), Builtin.Slice.slicePlaces lo hi (-1))) _ _ s
  rw [e1]
  have e2 : Builtin.Slice.slicePlaces ((n : Int) - 1) (-1) (-1) = n := by
    unfold Builtin.Slice.slicePlaces
    have h1 : ¬ ((-1 : Int) > 0) := by decide
    rw [if_neg h1]
    split
    · rw [show (- -1 : Int) = 1 by decide, Int.ediv_one]
      omega
    · omega
  show wpAny _ _ (pure ((n : Int) - 1, (-1 : Int), Builtin.Slice.slicePlaces ((n : Int) - 1) (-1) (-1))) _ _ s
  rw [e2]
  exact wpAny_pure h
theorem fm_congr {α β : Type} {f g : α → Option β} : ∀ {l : List α}, (∀ x ∈ l, f x = g x) → l.filterMap f = l.filterMap g
  | [], _ => rfl
  | a :: l, h => by rw [List.filterMap_cons, List.filterMap_cons, h a List.mem_cons_self, fm_congr fun x hx => h x (List.mem_cons_of_mem _ hx)]
theorem pick_rev (xs : Array Value) : ((List.range xs.size).filterMap fun (m : Nat) => xs[((xs.size : Int) - 1 + (m : Int) * (-1)).toNat]?).toArray = xs.toList.reverse.toArray := by
  congr 1
  have e : (List.range xs.size).filterMap (fun (m : Nat) => xs[((xs.size : Int) - 1 + (m : Int) * (-1)).toNat]?) = ((List.range xs.size).map fun k => xs.size - 1 - k).filterMap (xs[·]?) := by
    rw [List.filterMap_map]
    refine fm_congr fun m hm => ?_
    have := List.mem_range.mp hm
    show xs[((xs.size : Int) - 1 + (m : Int) * (-1)).toNat]? = xs[xs.size - 1 - m]?
    congr 1
    omega
  rw [e, PySem.W.krv_range, List.filterMap_reverse, PySem.W.krv_all]
theorem getItem_tuple_rev {t sl : Addr} {items : Array Value} {vs : Value} {Q : Value → Shared → Prop} (ht : IsTup s.heap t items) (hs : s.heap.IsSliceOf sl .none .none vs) (ps : IsPart vs (some (-1)))
    (h : Q (.ref s.heap.objs.size) { s with heap := s.heap.push { cls := .type "tuple", data := .seq items.toList.reverse.toArray } })
    (hsz : items.size ≤ sizeLine) : wpAny (model prog w) A (getItem (.ref t) (.ref sl)) Q E s := by
  have htake : sizeOk (.seq items.toList.reverse.toArray) := by
    show items.toList.reverse.toArray.size ≤ sizeLine
    rw [List.size_toArray, List.length_reverse, Array.length_toList]
    exact hsz
  obtain ⟨os, hos, hcs, hds⟩ := id hs
  have hTs : s.TypeIs (.ref sl) "slice" := ⟨os, hos, hcs⟩
  unfold getItem
  try with_reducible refine wpAny_holding ?_
  first | refine wpAny_bind (wpAny_pure ?_) | skip
  refine wpAny_bind (wpAny_sequenceKey ht.typeIs (by decide) ?_)
  refine wpAny_bind (wpAny_callSpecial?_slot (name := Str.ofString "__getitem__") ht.typeIs PyProof.Rows.slot_tuple_getitem
    (wpAny_call_entry PyProof.Rows.slot_tuple_getitem ht.typeIs entry_tuple_getitem ?_ (args_tuple_getitem _ _)))
  show wpAny _ _ (Builtin.Tuple.tupleItemsOf (.ref t) >>= _) _ _ s
  refine wpAny_bind (tupleItemsOf_ ht ?_)
  refine wpAny_bind (wpAny_typeOf hTs ?_)
  rw [if_pos (by decide)]
  refine wpAny_bind (sliceApplied_rev hs ps ?_)
  have hno : ¬ (((items.size : Int) - 1 == 0 && (-1 : Int) == 1 && items.size == items.size) = true) := by
    rw [show ((-1 : Int) == 1) = false from rfl]
    simp
  show wpAny _ _ (if ((items.size : Int) - 1 == 0 && (-1 : Int) == 1 && items.size == items.size) = true then _ else _) _ _ s
  rw [if_neg hno, pick_rev]
  first
    | exact wpAny_bind (m := Builtin.Tuple.tupleExact _) (wpAny_newObj_type (wpAny_pure ⟨_, rfl, wpAny_pure h⟩) htake)
    | exact wpAny_bind (m := Builtin.Tuple.tupleExact _) (wpAny_newObj_type (wpAny_bind (wpAny_pure (wpAny_pure ⟨_, rfl, wpAny_pure h⟩))) htake)
    | exact wpAny_bind (wpAny_bind (m := Builtin.Tuple.tupleExact _) (wpAny_newObj_type (wpAny_pure (wpAny_pure ⟨_, rfl, wpAny_pure h⟩)) htake))
    | exact wpAny_bind (wpAny_bind (m := Builtin.Tuple.tupleExact _) (wpAny_newObj_type (wpAny_pure ⟨_, rfl, wpAny_pure h⟩) htake))
end
/-- xs[::-1] of a list or a tuple -/
def tRevA (K : PySem.W.Frag) (te : TE) : TE := fun σ H Q => te σ H fun x H1 => (∃ a xs, x = .ref a ∧ SqL K H1 a xs ∧ ∀ p, H1 p = none → Q (.ref p) (upd H1 p (.lst xs.reverse))) ∨
  (∃ a xs, x = .ref a ∧ SqT K H1 a xs ∧ ∀ p, H1 p = none → Q (.ref p) (upd H1 p (.tup xs.reverse)))
section
variable {X : Cx} {T : List (Addr × Str)} {E : XK} {j : Nat} {a : Expr} {f : EF}
theorem pe_revA {e : Expr} {te : TE} {k : Nat} {p1 p2 p3 pos : Pos} (he : PE X e te) : PE X (.Subscript e (.Slice none none (some (.UnaryOp .USub (.Constant (.int 1) k p1) p2)) p3) pos) (tRevA X.K te) := by
  refine ⟨fun pins s σ H Q I h => ?_⟩
  refine Subscript_ (thn (he.run pins s σ H _ I h) fun v s1 ⟨x, H1, I1, r1, q1⟩ => ?_)
  have hst : PO X (some (.UnaryOp .USub (.Constant (.int 1) k p1) p2)) (tPart (tUn (rU fun i => .int (-i)) (tC (.int 1)))) := po_some (pe_un un_neg pe_int)
  refine wpAny_Slice (thn (po_none.run pins s1 σ H1 (fun o H2 => o = none ∧ H2 = H1) I1 ⟨rfl, rfl⟩) fun vl s2 ⟨l, H2, I2, pl, el, e2⟩ => ?_)
  subst el e2
  refine thn (po_none.run pins s2 σ H2 (fun o H3 => o = none ∧ H3 = H2) I2 ⟨rfl, rfl⟩) fun vu s3 ⟨u, H3, I3, pu, eu, e3⟩ => ?_
  subst eu e3
  refine thn (hst.run pins s3 σ H3 (fun o H4 => o = some (-1) ∧ H4 = H3) I3 ⟨1, rfl, -1, rfl, rfl, rfl⟩) fun vs s4 ⟨o, H4, I4, ps, eo, e4⟩ => ?_
  subst eo e4
  have I5 : Inv X pins σ H4 { s4 with heap := s4.heap.push { cls := .type "slice", data := .fields #[vl, vu, vs] } } := I4.kept (t' := s4.toks) fun b ob q => Heap.get?_push_of_some _ q
  rcases q1 with ⟨a, xs, ex, hx, q⟩ | ⟨a, xs, ex, hx, q⟩
  · subst ex
    cases r1
    obtain ⟨its, r, ht, hz⟩ := I5.list hx
    have hlen := r.length
    show wpAny (model X.prog X.w) X.A (subscriptTail e (.Slice none none (some (.UnaryOp .USub (.Constant (.int 1) k p1) p2)) p3) (.ref a) (.ref s4.heap.objs.size)) (EP X pins σ Q) X.xe { s4 with heap := s4.heap.push { cls := .type "slice", data := .fields #[vl, vu, vs] } }
    refine tail_any (ops := [.ref a, .ref s4.heap.objs.size]) ht.isList.typeIs (PySem.slot_list_getitem.lookup) ?_ (by with_unfolding_all rfl)
    refine wpAny_getItem_list_slice ht.isList (Heap.IsSliceOf.new _ vl vu vs) pl pu ps (by decide) ?_ (by rw [List.size_toArray]; omega)
    rw [PySem.W.krv_pick]
    refine ⟨.ref _, _, I5.laid (t' := s4.toks) (o := .lst xs.reverse) (fun b ob q => Heap.get?_push_of_some _ q) (Nat.le_refl _) ?_, rfl, q _ (I5.hok.fresh (Nat.le_refl _))⟩
    exact ⟨by rw [List.length_reverse]; exact hz, _, 0, r.reverse, Heap.get?_push_size _ rfl⟩
  · subst ex
    cases r1
    cases pl
    cases pu
    obtain ⟨its, r, ht, hz⟩ := I5.tuple hx
    have hlen : its.toArray.size = xs.length := by rw [List.size_toArray]; exact r.length.symm
    show wpAny (model X.prog X.w) X.A (subscriptTail e (.Slice none none (some (.UnaryOp .USub (.Constant (.int 1) k p1) p2)) p3) (.ref a) (.ref s4.heap.objs.size)) (EP X pins σ Q) X.xe { s4 with heap := s4.heap.push { cls := .type "slice", data := .fields #[.none, .none, vs] } }
    refine tail_any (ops := [.ref a, .ref s4.heap.objs.size]) ht.typeIs PyProof.Rows.slot_tuple_getitem.lookup ?_ (by with_unfolding_all rfl)
    refine getItem_tuple_rev ht (Heap.IsSliceOf.new _ .none .none vs) ps ?_ (by rw [hlen]; exact hz)
    refine ⟨.ref _, _, I5.laid (t' := s4.toks) (o := .tup xs.reverse) (fun b ob q => Heap.get?_push_of_some _ q) (Nat.le_refl _) ?_, rfl, q _ (I5.hok.fresh (Nat.le_refl _))⟩
    exact ⟨by rw [List.length_reverse]; exact hz, _, r.reverse, IsTup.new _ _⟩
theorem de_revA {j1 : Nat} {p1 p2 p3 pos : Pos} (ha : DE X T E a f) : DE X T E (.Subscript a (.Slice none none (some (.UnaryOp .USub (.Constant (.int 1) j1 p1) p2)) p3) pos) (eUn dRev f) :=
  pe_imp (pe_revA ha) fun σ H Q ⟨ρ, α, μ, S, sl, q⟩ => tD_bind S sl q fun v w H1 α1 μ1 st1 S1 sl1 r1 q1 => by
    obtain ⟨z, e, q2⟩ := PQ.ofO q1
    cases e1 : view μ1 w with
    | none => rw [e1] at e; cases e
    | some d =>
      simp only [e1, Option.bind_some] at e
      cases d with
      | list l =>
        cases e
        obtain ⟨p4, xs, rfl, h4, r4⟩ := (r1.view S1 e1).list
        refine .inl ⟨p4, xs, rfl, .inl h4, fun p np => ?_⟩
        obtain ⟨sm, rp⟩ := rp_newL S1 np r4.reverse
        exact q2 _ _ _ (Same.step S1 sm) (S1.same sm) rp
      | tuple l =>
        cases e
        obtain ⟨p4, xs, rfl, h4, r4⟩ := (r1.view S1 e1).tuple
        refine .inr ⟨p4, xs, rfl, h4, fun p np => ?_⟩
        obtain ⟨sm, rp⟩ := rp_newT np r4.reverse
        exact q2 _ _ _ (Same.step S1 sm) (S1.same sm) rp
      | none => cases e
      | bool b => cases e
      | int b => cases e
      | str b => cases e
      | dict b => cases e
end
end L3

set_option Elab.async false
set_option linter.all false
set_option maxRecDepth 100000
set_option maxHeartbeats 2000000
/-! l.index(x), l.count(x), list(range(..)). -/
namespace L3
open PySem PySem.Spec PyProof.Rows L2 Mi
theorem R.bind_assoc {α β γ : Type} (r : R α) (f : α → Sto → R β) (g : β → Sto → R γ) : (r.bind f).bind g = r.bind fun a μ => (f a μ).bind g := by cases r <;> rfl
section
variable {X : Cx}
def rCntF (K : PySem.W.Frag) : V → List V → Hp → VK → Prop := fun x xs H Q => ∃ (a : Addr) (ys : List V) (y : V), x = V.ref a ∧ xs = [y] ∧ SqL K H a ys ∧ flatV y = true ∧ ys.all flatV = true ∧ Q (.int (ys.countP fun z => eqV z y : Nat)) H
theorem countP_eqU {y : V} : ∀ {ys : List V} {its : List Value}, Vals ys its → ys.all flatV = true → its.countP (eqU y) = ys.countP fun z => eqV z y
  | _, _, .nil, _ => rfl
  | _, _, .cons r t, h => by
    rw [List.all_cons, Bool.and_eq_true] at h
    rw [List.countP_cons, List.countP_cons, countP_eqU t h.2, eqU_of r h.1]
theorem mt_countF : MtR X "list.count" (rCntF X.K) := by
  intro pins s σ H x xs v us Q I rx rxs h
  obtain ⟨a, ys, y, rfl, rfl, hs, fy, fys, q⟩ := h
  cases rx
  cases rxs with
  | cons ry rt =>
    rename_i uy ut
    cases rt
    obtain ⟨its, rv, ⟨⟨cls, dd, data, sl⟩, n, ho, hc, hdn, hd⟩, hlen⟩ := I.list hs
    simp only at hc hd
    subst hc hd
    refine call_meets PySem.F.slot_list_count ⟨_, ho, rfl⟩ PySem.F.entry_list_count (PySem.F.args_list_count_2 _ _)
      (SeqAt.list_countAt a its.toArray n dd sl uy (eqU y)) ⟨ho, fun u' hu' => mem_eqAt ry fy rv fys u' (by simpa using hu'), ?_⟩
    refine ⟨.int (ys.countP fun z => eqV z y : Nat), H, I.tok _, ⟨s.toks, ?_⟩, q⟩
    rw [← countP_eqU rv fys]
end
section
variable {C : Cv} {E : XK}
def MeL (C : Cv) (op : List D → D → Option D) (r : V → List V → Hp → VK → Prop) : Prop := ∀ H α μ x y l d z Q, Stor C H α μ → RpT C.K H (Own α μ) x (.list l) → RpT C.K H (Own α μ) y d → op l d = some z → (∀ v H', Same H H' → Rp C.K H' (Own α μ) v z → Q v H') → r x [y] H Q
theorem ml_index : MeL C lIndex (rIndex C.K) := by
  intro H α μ x y l d z Q S rx ry e q
  unfold lIndex at e
  split at e
  · rename_i h
    cases e1 : l.findIdx? fun z => PyData.eqv z d with
    | none => rw [e1] at e; cases e
    | some j =>
      rw [e1] at e
      cases e
      obtain ⟨hj, h1, h2⟩ := List.findIdx?_eq_some_iff_getElem.mp e1
      obtain ⟨p1, xs, rfl, g1, r1⟩ := rx.list
      have r0 := ry.flat h.1
      have fl : ∀ d ∈ l, flatD d = true := fun d hd => List.all_eq_true.mp h.2 d hd
      obtain ⟨v, hv, rv⟩ := r1.get (List.getElem?_eq_getElem hj)
      refine ⟨p1, xs, y, j, v, rfl, rfl, .inl g1, r0.flat h.1, r1.flat h.2, hv, ?_, fun m z' hm hz' => ?_, q _ H (.refl H) (.int _)⟩
      · rw [rv.eqv r0 (fl _ (List.getElem_mem _)) h.1]
        exact h1
      · have hml : m < l.length := by omega
        obtain ⟨v2, hv2, rv2⟩ := r1.get (List.getElem?_eq_getElem hml)
        rw [hz'] at hv2
        cases hv2
        rw [rv2.eqv r0 (fl _ (List.getElem_mem _)) h.1]
        simpa using h2 m hm
  · cases e
theorem RpAll.countP {K : PySem.W.Frag} {H : Hp} {M : Addr → Prop} {u : V} {e : D} (q : Rp K H M u e) (he : flatD e = true) : ∀ {vs : List V} {ds : List D}, RpAll K H M vs ds → ds.all flatD = true → vs.countP (fun z => eqV z u) = ds.countP fun y => PyData.eqv y e
  | _, _, .nil, _ => rfl
  | _, _, .cons r t, h => by
    rw [List.all_cons, Bool.and_eq_true] at h
    rw [List.countP_cons, List.countP_cons, RpAll.countP q he t h.2, r.eqv q h.1 he]
theorem ml_count : MeL C lCount (rCntF C.K) := by
  intro H α μ x y l d z Q S rx ry e q
  unfold lCount at e
  split at e
  · rename_i h
    cases e
    obtain ⟨p1, xs, rfl, g1, r1⟩ := rx.list
    have r0 := ry.flat h.1
    exact ⟨p1, xs, y, rfl, rfl, .inl g1, r0.flat h.1, r1.flat h.2, by rw [r1.countP r0 h.1 h.2]; exact q _ H (.refl H) (.int _)⟩
  · cases e
theorem rp_rangeV {K : PySem.W.Frag} {H : Hp} {M : Addr → Prop} (a : Int) : ∀ l : List Nat, RpAll K H M (l.map fun i => V.int (a + (i : Nat))) (l.map fun (k : Nat) => PyData.int (a + k))
  | [] => .nil
  | n :: r => .cons (.int _) (rp_rangeV a r)
end
section
variable {X : Cx} {T : List (Addr × Str)} {E : XK} {j : Nat} {pos apos : Pos} {tg a b c : Expr} {f g h : EF}
theorem de_lm {id : String} {name : Str} {op : List D → D → Option D} {r : V → List V → Hp → VK → Prop} {p' : Pos} (slot : Slot "list" name id) (ty : typeOf (.builtin id) = pure (.type "method_descriptor")) (rule : MtR X id r) (hm : MeL (CvX X T) op r) (ha : DE X T E a f) (hb : DE X T E b g)
    (hbase : attributeBase a name X.env (eval a X.env) = eval a X.env := by rfl)
    (hfew : ((backTo pos (starEach [b] X.env)).all (fun x => !x.1) && (backToKw pos (keywordEach [] X.env)).all (fun x => x.1.isSome) && decide ([b].length + ([] : List Keyword).length + (if ([] : List Keyword).isEmpty then 0 else 1) < 30)) = true := by rfl)
    (hline : (p'.endLine == pos.line) = true := by rfl) (hs : starEach [b] X.env = (false, eval b X.env) :: starEach [] X.env := by rfl) (hpl : (backTo pos (starEach [] X.env)).any (·.1) = false := by rfl) :
    DE X T E (.Call (.Attribute a name p') [b] [] pos) (eLm op f g) :=
  pe_imp (pe_bm PySem.F.plainAttrs_list slot ty rule ha (pa_cons hb pa_nil hs) hbase hfew hline hs hpl) fun σ H Q ⟨ρ, α, μ, S, sl, q⟩ =>
    tD_bind S sl q fun v w H1 α1 μ1 st S1 sl1 r1 q1 => by
      split at q1
      · rename_i l
        obtain ⟨p1, xs, rfl, h1, r3⟩ := RpT.list (.inl r1)
        refine ⟨.inl ⟨rfl, xs, .inl h1⟩, ?_⟩
        refine tD_bind S1 sl1 q1 fun v2 w2 H2 α2 μ2 st2 S2 sl2 r2 q2 => ?_
        obtain ⟨z, e, q3⟩ := PQ.ofO q2
        cases e1 : view μ2 w2 with
        | none => rw [e1] at e; cases e
        | some d =>
          simp only [e1, Option.bind_some] at e
          cases e3 : op l d with
          | none => rw [e3] at e; cases e
          | some d2 =>
            rw [e3] at e
            cases e
            have r1' : RpW (CvX X T) H2 α2 μ2 (.ref p1) (.d (.list l)) := r1.step st2
            exact hm H2 α2 μ2 _ _ l d d2 Q S2 (.inl r1') (r2.view S2 e1) e3 fun v H' sm rv => q3 v H' α2 (Same.step S2 sm) (S2.same sm) rv
      · exact (show False from q1).elim
theorem de_index {p' : Pos} (ha : DE X T E a f) (hb : DE X T E b g)
    (hbase : attributeBase a "index" X.env (eval a X.env) = eval a X.env := by rfl)
    (hfew : ((backTo pos (starEach [b] X.env)).all (fun x => !x.1) && (backToKw pos (keywordEach [] X.env)).all (fun x => x.1.isSome) && decide ([b].length + ([] : List Keyword).length + (if ([] : List Keyword).isEmpty then 0 else 1) < 30)) = true := by rfl)
    (hline : (p'.endLine == pos.line) = true := by rfl) (hs : starEach [b] X.env = (false, eval b X.env) :: starEach [] X.env := by rfl) (hpl : (backTo pos (starEach [] X.env)).any (·.1) = false := by rfl) :
    DE X T E (.Call (.Attribute a "index" p') [b] [] pos) (eLm lIndex f g) := de_lm PySem.F.slot_list_index PySem.F.type_list_index mt_index ml_index ha hb hbase hfew hline hs hpl
theorem de_count {p' : Pos} (ha : DE X T E a f) (hb : DE X T E b g)
    (hbase : attributeBase a "count" X.env (eval a X.env) = eval a X.env := by rfl)
    (hfew : ((backTo pos (starEach [b] X.env)).all (fun x => !x.1) && (backToKw pos (keywordEach [] X.env)).all (fun x => x.1.isSome) && decide ([b].length + ([] : List Keyword).length + (if ([] : List Keyword).isEmpty then 0 else 1) < 30)) = true := by rfl)
    (hline : (p'.endLine == pos.line) = true := by rfl) (hs : starEach [b] X.env = (false, eval b X.env) :: starEach [] X.env := by rfl) (hpl : (backTo pos (starEach [] X.env)).any (·.1) = false := by rfl) :
    DE X T E (.Call (.Attribute a "count" p') [b] [] pos) (eLm lCount f g) := de_lm PySem.F.slot_list_count PySem.F.type_list_count mt_countF ml_count ha hb hbase hfew hline hs hpl
theorem lrg_go {H : Hp} {α : Al} {μ : Sto} {Q : VK} {a b : Int} (S : Stor (CvX X T) H α μ) (h1 : -(LIM : Int) ≤ a) (h2 : a ≤ LIM) (h3 : -(LIM : Int) ≤ b) (h4 : b ≤ LIM) (q : PQ (CvX X T) E Q H α μ (.ok (.d (.list (rangeD a b))) μ)) : RgOk a b ∧ ∀ p, H p = none → Q (.ref p) (upd H p (.lst (rgV a b))) := by
  have hL : (LIM : Int) = 1000000 := rfl
  refine ⟨⟨by omega, by omega, by omega, by omega, by omega⟩, fun p np => ?_⟩
  obtain ⟨sm, rp⟩ := rp_newL S np (rp_rangeV (K := (CvX X T).K) (H := H) (M := Own α μ) a (List.range (b - a).toNat))
  exact q _ _ α (Same.step S sm) (S.same sm) rp
theorem de_lrg1 {p p2 q : Pos} (hc : X.calm = true) (ha : DE X T E a f) (hm : X.mg "list" = none) (hm2 : X.mg "range" = none) (hg : Gl X "list" := by rfl) (hg2 : Gl X "range" := by rfl)
    (na : starEach [a] X.env = (false, eval a X.env) :: starEach [] X.env := by rfl)
    (nb : starEach [.Call (.Name "range" p2) [a] [] q] X.env = (false, eval (.Call (.Name "range" p2) [a] [] q) X.env) :: starEach [] X.env := by rfl) : DE X T E (.Call (.Name "list" p) [.Call (.Name "range" p2) [a] [] q] [] pos) (eLRg (iRange1 f)) :=
  pe_imp (pe_listRg hc hg hm (prg_1 hg2 hm2 ha na) nb) fun σ H Q ⟨ρ, α, μ, S, sl, q⟩ => by
    have q : PQ (CvX X T) E Q H α μ ((iRange1 f ρ μ).bind fun l μ1 => .ok (.d (.list l)) μ1) := q
    unfold iRange1 at q
    rw [R.bind_assoc] at q
    refine tD_bind S sl q fun v w H1 α1 μ1 st S1 sl1 r q1 => ?_
    cases w with
    | d d =>
      cases d with
      | int b =>
        dsimp only at q1
        have hv : v = .int b := RpT.int (.inl r)
        by_cases hb : -(LIM : Int) ≤ b ∧ b ≤ LIM
        · rw [if_pos hb] at q1
          exact ⟨b, hv, lrg_go S1 (by decide) (by decide) hb.1 hb.2 q1⟩
        · rw [if_neg hb] at q1
          exact (show False from q1).elim
      | _ => exact (show False from q1).elim
    | _ => exact (show False from q1).elim
theorem de_lrg2 {p p2 q : Pos} (hc : X.calm = true) (ha : DE X T E a f) (hb : DE X T E b g) (hm : X.mg "list" = none) (hm2 : X.mg "range" = none) (hg : Gl X "list" := by rfl) (hg2 : Gl X "range" := by rfl)
    (na : starEach [a, b] X.env = (false, eval a X.env) :: starEach [b] X.env := by rfl) (na2 : starEach [b] X.env = (false, eval b X.env) :: starEach [] X.env := by rfl) (hp : (backTo q (starEach [b] X.env)).any (·.1) = false := by rfl)
    (nb : starEach [.Call (.Name "range" p2) [a, b] [] q] X.env = (false, eval (.Call (.Name "range" p2) [a, b] [] q) X.env) :: starEach [] X.env := by rfl) : DE X T E (.Call (.Name "list" p) [.Call (.Name "range" p2) [a, b] [] q] [] pos) (eLRg (iRange2 f g)) :=
  pe_imp (pe_listRg hc hg hm (prg_2 hg2 hm2 ha hb na na2 hp) nb) fun σ H Q ⟨ρ, α, μ, S, sl, q⟩ => by
    have q : PQ (CvX X T) E Q H α μ ((iRange2 f g ρ μ).bind fun l μ1 => .ok (.d (.list l)) μ1) := q
    unfold iRange2 at q
    rw [R.bind_assoc] at q
    refine tD_bind S sl q fun v w H1 α1 μ1 st S1 sl1 r q1 => ?_
    rw [R.bind_assoc] at q1
    refine tD_bind S1 sl1 q1 fun v2 w2 H2 α2 μ2 st2 S2 sl2 r2 q2 => ?_
    split at q2
    · rename_i i k
      have hv : v = .int i := RpT.int (.inl r)
      have hv2 : v2 = .int k := RpT.int (.inl r2)
      split at q2
      · rename_i hb
        exact ⟨i, k, hv, hv2, lrg_go S2 (by omega) (by omega) (by omega) (by omega) q2⟩
      · exact (show False from q2).elim
    · exact (show False from q2).elim
end
end L3

set_option Elab.async false
set_option linter.all false
set_option maxRecDepth 100000
set_option maxHeartbeats 2000000
/-! Objects of own classes whose fields hold plain data: fields, methods, properties, making. -/
namespace Mi
open PySem
def mins (μ : Sto) (k : Nat) : Option (Str × List (Str × D)) := match μ[k]? with
  | some (some (.ins c fs)) => some (c, fs)
  | _ => none
def putD (f : Str) (v : D) : List (Str × D) → List (Str × D)
  | [] => [(f, v)]
  | (g, x) :: r => if g = f then (g, v) :: r else (g, x) :: putD f v r
/-- o.x, o an object of the class c -/
def eFld (c x : Str) (f : EF) : EF := fun ρ μ => (f ρ μ).bind fun w μ1 => match w with
  | .m k => (match mins μ1 k with
    | some (c', fs) => if c' = c then ofO ((fs.lookup x).map W.d) μ1 else .no
    | none => .no)
  | _ => .no
/-- o.x = e -/
def sFldS (c x : Str) (f g : EF) : SF := fun ρ μ => (g ρ μ).bindS fun w μ1 => (f ρ μ1).bindS fun o μ2 => match w, o with
  | .d d, .m k => (match mins μ2 k with
    | some (c', fs) => if c' = c ∧ fs.length < 900 then .nx ρ (μ2.set k (some (.ins c (putD x d fs)))) else .no
    | none => .no)
  | _, _ => .no
/-- o.m(..) -/
def eMeth (c m : Str) (g : GF) (f : EF) (a : AF) : EF := fun ρ μ => (f ρ μ).bind fun w μ1 => match w with
  | .m k => (match mins μ1 k with
    | some (c', fs) => if c' = c ∧ fs.lookup m = none then (a ρ μ1).bind fun ws μ2 => g (.m k :: ws) μ2 else .no
    | none => .no)
  | _ => .no
def noEr {α : Type} : R α → R α
  | .ok a μ => .ok a μ
  | _ => .no
/-- o.x, a property -/
def eProp (c : Str) (g : GF) (f : EF) : EF := fun ρ μ => (f ρ μ).bind fun w μ1 => match w with
  | .m k => (match mins μ1 k with
    | some (c', _) => if c' = c then noEr (g [.m k] μ1) else .no
    | none => .no)
  | _ => .no
/-- c(..): a new object, then __init__ -/
def eNew (c : Str) (g : GF) (a : AF) : EF := fun ρ μ => (a ρ μ).bind fun ws μ1 => (g (.m μ1.length :: ws) (μ1 ++ [some (.ins c [])])).bind fun r μ2 => match r with
  | .d .none => .ok (.m μ1.length) μ2
  | _ => .no
/-- the truth of an object by its own __bool__ -/
def eTruM (c : Str) (g : GF) (f : EF) : EF := fun ρ μ => (f ρ μ).bind fun w μ1 => match w with
  | .m k => (match mins μ1 k with
    | some (c', _) => if c' = c then (g [.m k] μ1).bind fun r μ2 => match r with
      | .d (.bool b) => .ok (.d (.bool b)) μ2
      | _ => .no
      else .no
    | none => .no)
  | _ => .no
end Mi
namespace L3
open PySem PySem.Spec PyProof.Rows L2 Mi
theorem mins_at {μ : Sto} {k : Nat} {c : Str} {fs : List (Str × D)} (h : mins μ k = some (c, fs)) : μ[k]? = some (some (.ins c fs)) := by
  unfold mins at h
  split at h
  · rename_i c' fs' e
    cases h
    exact e
  · cases h
/-- where the class stands -/
def clsAt (mg : Str → Option Value) (c : Str) : Addr := match mg c with
  | some (.ref a) => a
  | _ => 0
/-- what of the text a class must have, by its name -/
structure OwnC (K : PySem.W.Frag) (mg : Str → Option Value) (c : Str) (A : Addr) : Prop where
  at_ : mg c = some (.ref A)
  cls : Cls K A
section
variable {K : PySem.W.Frag} {H : Hp} {M : Addr → Prop}
theorem rp_lookup {x : Str} : ∀ {gs : List (Str × V)} {fs : List (Str × D)}, gs.map (·.1) = fs.map (·.1) → RpAll K H M (gs.map (·.2)) (fs.map (·.2)) → (∀ d, fs.lookup x = some d → ∃ v, gs.lookup x = some v ∧ Rp K H M v d) ∧ (fs.lookup x = none → gs.lookup x = none)
  | [], [], _, _ => ⟨fun d e => (by cases e), fun _ => rfl⟩
  | [], _ :: _, h, _ => by cases h
  | _ :: _, [], h, _ => by cases h
  | (g, v) :: gs, (f, d) :: fs, h, r => by
    simp only [List.map_cons, List.cons.injEq] at h
    obtain ⟨rfl, h⟩ := h
    cases r with
    | cons r1 r2 =>
      obtain ⟨i1, i2⟩ := rp_lookup (x := x) h r2
      by_cases e : (x == g) = true
      · refine ⟨fun d' e' => ⟨v, ?_, ?_⟩, fun e' => ?_⟩
        · rw [List.lookup_cons, e]
        · rw [List.lookup_cons, e] at e'
          cases e'
          exact r1
        · rw [List.lookup_cons, e] at e'
          cases e'
      · have e : (x == g) = false := by simpa using e
        rw [List.lookup_cons, List.lookup_cons, e]
        exact ⟨i1, i2⟩
theorem rp_put {x : Str} {v : V} {d : D} (r0 : Rp K H M v d) : ∀ {gs : List (Str × V)} {fs : List (Str × D)}, gs.map (·.1) = fs.map (·.1) → RpAll K H M (gs.map (·.2)) (fs.map (·.2)) → (putF x v gs).map (·.1) = (putD x d fs).map (·.1) ∧ RpAll K H M ((putF x v gs).map (·.2)) ((putD x d fs).map (·.2))
  | [], [], _, _ => ⟨rfl, .cons r0 .nil⟩
  | [], _ :: _, h, _ => by cases h
  | _ :: _, [], h, _ => by cases h
  | (g, y) :: gs, (f, z) :: fs, h, r => by
    simp only [List.map_cons, List.cons.injEq] at h
    obtain ⟨rfl, h⟩ := h
    cases r with
    | cons r1 r2 =>
      obtain ⟨i1, i2⟩ := rp_put r0 h r2
      unfold putF putD
      by_cases e : g = x
      · rw [if_pos e, if_pos e]
        exact ⟨by simp [h], .cons r0 r2⟩
      · rw [if_neg e, if_neg e]
        exact ⟨by simp [i1], .cons r1 i2⟩
end
section
variable {C : Cv} {H : Hp} {α : Al} {μ : Sto}
theorem own_writeI (S : Stor C H α μ) {k : Nat} {c : Str} {fs fs' : List (Str × D)} {a A dx : Addr} {gs gs' : List (Str × V)} (hk : μ[k]? = some (some (.ins c fs))) (ha : α.own[k]? = some a) (hA : C.mg c = some (.ref A)) (hx : H a = some (.ins A dx gs))
    (hn : gs'.map (·.1) = fs'.map (·.1)) (r : RpAll C.K H (Own α μ) (gs'.map (·.2)) (fs'.map (·.2))) :
    Step H α μ (upd H a (.ins A dx gs')) α (μ.set k (some (.ins c fs'))) ∧ Stor C (upd H a (.ins A dx gs')) α (μ.set k (some (.ins c fs'))) := by
  have oa : Own α μ a := .inl ⟨k, _, ha, hk⟩
  have st : Step H α μ (upd H a (.ins A dx gs')) α (μ.set k (some (.ins c fs'))) := by
    refine ⟨⟨fun b o h n _ => ⟨?_, fun z => n ((own_set' hk).mp z)⟩, fun b ys h => ?_, fun b o u h => ?_⟩, fun _ _ h => h, rfl, fun b hb => ?_⟩
    · rw [upd_ne (fun e => n (by rw [e]; exact oa))]; exact h
    · rw [upd_ne (fun e => by rw [e, hx] at h; cases h)]; exact h
    · rw [upd_ne (fun e => by rw [e, hx] at h; cases h)]; exact h
    · rw [upd_ne (fun e => S.nohid ha (by rw [← e]; exact hb))]
  refine ⟨st, by rw [List.length_set]; exact S.len, S.nd, fun b hb => ?_, fun j c' h => ?_, ?_⟩
  · by_cases e : b = a
    · rw [e]; exact ⟨_, upd_same, fun _ z => by cases z⟩
    · rw [upd_ne e]; exact S.there b hb
  · by_cases e : k = j
    · subst e
      rw [List.getElem?_set_self (List.getElem?_eq_some_iff.mp hk).1] at h
      cases h
      exact ⟨a, ha, A, dx, gs', hA, upd_same, hn, r.ext st.ext⟩
    · rw [List.getElem?_set_ne e] at h
      obtain ⟨b, h1, h2⟩ := S.cell j c' h
      have ne : b ≠ a := fun z => e (S.uniq ha (by rw [← z]; exact h1))
      refine ⟨b, h1, ?_⟩
      cases c' with
      | lst l => obtain ⟨ys, e1, e2⟩ := h2; exact ⟨ys, by rw [upd_ne ne]; exact e1, e2.ext st.ext⟩
      | ins c fs => obtain ⟨A, dx, gs, e1, e2, e3, e4⟩ := h2; exact ⟨A, dx, gs, e1, by rw [upd_ne ne]; exact e2, e3, e4.ext st.ext⟩
  · intro p hp
    obtain ⟨ps, h1, h2, h3⟩ := S.tabs p hp
    have ne : p.1 ≠ a := fun e => by rw [e, hx] at h1; cases h1
    refine ⟨ps, by rw [upd_ne ne]; exact h1, h2, fun pos cv hc => ?_⟩
    obtain ⟨c, e1, e2⟩ := h3 pos cv hc
    refine ⟨c, e1, ?_⟩
    rw [upd_ne (fun e => by rw [e, hx] at e2; cases e2)]
    exact e2
theorem same_make {H : Hp} {x dx A : Addr} (hx : H x = none) (hd : H dx = none) (ne : dx ≠ x) : Same H (upd (upd H dx (.own x)) x (.ins A dx [])) := fun b o h => by
  rw [upd_ne (ne_of_none h hx), upd_ne (ne_of_none h hd)]
  exact h
theorem step_make (S : Stor C H α μ) {x dx A : Addr} (c : Str) (hx : H x = none) (hd : H dx = none) (ne : dx ≠ x) : Step H α μ (upd (upd H dx (.own x)) x (.ins A dx [])) (α.push x) (μ ++ [some (.ins c [])]) := by
  have sm := same_make (A := A) hx hd ne
  refine ⟨⟨fun b o h n _ => ⟨sm b o h, fun z => ?_⟩, fun b xs h => sm b _ h, fun b o u h => sm b _ h⟩, fun k a h => ?_, rfl, (Same.step S sm).keep⟩
  · rcases (own_push S.len).mp z with z | z
    · exact n z
    · rw [z, hx] at h; cases h
  · show (α.own ++ [x])[k]? = _
    rw [List.getElem?_append_left (List.getElem?_eq_some_iff.mp h).1]
    exact h
theorem stor_make (S : Stor C H α μ) {x dx A : Addr} {c : Str} (hA : C.mg c = some (.ref A)) (hx : H x = none) (hd : H dx = none) (ne : dx ≠ x) : Stor C (upd (upd H dx (.own x)) x (.ins A dx [])) (α.push x) (μ ++ [some (.ins c [])]) := by
  have sm := same_make (A := A) hx hd ne
  have st := step_make (A := A) S c hx hd ne
  have fresh : ∀ a ∈ α.own ++ α.hid, a ≠ x := fun a ha e => by
    obtain ⟨o, q, _⟩ := S.there a ha
    rw [e, hx] at q; cases q
  refine ⟨by simp [Al.push, S.len], ?_, fun a h => ?_, fun k c' h => ?_, S.tabs.ext sm⟩
  · show ((α.own ++ [x]) ++ α.hid).Nodup
    have h := S.nd
    rw [List.append_assoc, List.singleton_append, List.Perm.nodup_iff List.perm_middle]
    exact List.nodup_cons.mpr ⟨fun z => fresh x z rfl, h⟩
  · have h : a ∈ (α.own ++ [x]) ++ α.hid := h
    by_cases e : a = x
    · subst e
      exact ⟨_, upd_same, fun _ z => by cases z⟩
    · have hm : a ∈ α.own ++ α.hid := by
        rcases List.mem_append.mp h with h | h
        · rcases List.mem_append.mp h with h | h
          · exact List.mem_append_left _ h
          · exact absurd (by simpa using h) e
        · exact List.mem_append_right _ h
      obtain ⟨o, q, n⟩ := S.there a hm
      exact ⟨o, sm _ _ q, n⟩
  · by_cases hk : k < μ.length
    · rw [List.getElem?_append_left hk] at h
      obtain ⟨a, h1, h2⟩ := S.cell k c' h
      refine ⟨a, st.pre _ _ h1, ?_⟩
      cases c' with
      | lst l => obtain ⟨ys, e1, e2⟩ := h2; exact ⟨ys, sm _ _ e1, e2.ext st.ext⟩
      | ins c fs => obtain ⟨A, dx, gs, e1, e2, e3, e4⟩ := h2; exact ⟨A, dx, gs, e1, sm _ _ e2, e3, e4.ext st.ext⟩
    · rw [List.getElem?_append_right (by omega)] at h
      by_cases hz : k - μ.length = 0
      · rw [hz] at h
        cases h
        refine ⟨x, ?_, A, dx, [], hA, upd_same, rfl, .nil⟩
        show (α.own ++ [x])[k]? = _
        rw [List.getElem?_append_right (by rw [S.len]; omega), S.len, hz]
        rfl
      · rw [List.getElem?_eq_none (by simp; omega)] at h
        cases h
end
/-! ### methods -/
structure HasM (P : Program) (w : World) (K : PySem.W.Frag) (mg : Str → Option Value) (base : Heap) (T : List (Addr × Str)) (k : Nat) (A : Addr) (m : Str) (g : GF) : Prop where
  ex : ∃ f fd ps ds dvs dd g0, Meth K A m f ∧ Binds K fd ps ds ∧ Vals dvs ds ∧ (∀ H M, RpAll K H M dvs dd) ∧ (∀ ws μ, g ws μ = g0 (ws ++ dd.map W.d) μ) ∧
    FnOk P w K mg base (L2N.CX P w) k f fd ps (spD ⟨K, mg, T⟩ g0)
structure HasMk (P : Program) (w : World) (K : PySem.W.Frag) (mg : Str → Option Value) (base : Heap) (T : List (Addr × Str)) (k : Nat) (A : Addr) (g : GF) : Prop where
  ex : ∃ f fd ps ds dvs dd g0, Mk K A f ∧ Binds K fd ps ds ∧ Vals dvs ds ∧ (∀ H M, RpAll K H M dvs dd) ∧ (∀ ws μ, g ws μ = g0 (ws ++ dd.map W.d) μ) ∧
    FnOk P w K mg base (L2N.CX P w) k f fd ps (spD ⟨K, mg, T⟩ g0)
structure HasP (P : Program) (w : World) (K : PySem.W.Frag) (mg : Str → Option Value) (base : Heap) (T : List (Addr × Str)) (k : Nat) (A : Addr) (x : Str) (g : GF) : Prop where
  ex : ∃ p f fd ps, PropOf K A x p f ∧ Binds K fd ps [] ∧ FnOk P w K mg base (L2N.CX P w) k f fd ps (spD ⟨K, mg, T⟩ g)
section
variable {X : Cx} {T : List (Addr × Str)} {E : XK} {j : Nat} {pos apos : Pos} {tg a b c0 o e : Expr} {f g h : EF} {es : List Expr} {r : AF} {c x m : Str} {A : Addr}
theorem de_fld (oc : OwnC X.K X.mg c A) (na : NoAttr X.K A x) (ha : DE X T E a f) (hb : attributeBase a x X.env (eval a X.env) = eval a X.env := by rfl) : DE X T E (.Attribute a x pos) (eFld c x f) :=
  pe_imp (pe_fld ha hb) fun σ H Q ⟨ρ, α, μ, S, sl, q⟩ => tD_bind S sl q fun v w H1 α1 μ1 st1 S1 sl1 r1 q1 => by
    cases w with
    | m k =>
      dsimp only at q1
      split at q1
      · rename_i c' fs e1
        split at q1
        · rename_i ec
          subst ec
          obtain ⟨p, hp, rfl⟩ := r1
          obtain ⟨p', hp', B, dx, gs, hB, hx, hn, rr⟩ := S1.cell k _ (mins_at e1)
          rw [hp] at hp'; cases hp'
          have hB : X.mg c' = some (.ref B) := hB
          rw [oc.at_] at hB
          cases hB
          obtain ⟨z, e2, q2⟩ := PQ.ofO q1
          cases e3 : fs.lookup x with
          | none => rw [e3] at e2; cases e2
          | some d =>
            rw [e3] at e2
            cases e2
            obtain ⟨v, e4, rv⟩ := (rp_lookup hn rr).1 d e3
            exact ⟨p, A, dx, gs, v, rfl, hx, oc.cls, na, e4, q2 v H1 α1 (.refl _ _ _) S1 rv⟩
        · exact (show False from q1).elim
      · exact (show False from q1).elim
    | _ => exact (show False from q1).elim
theorem ds_fld {p' : Pos} (oc : OwnC X.K X.mg c A) (na : NoAttr X.K A x) (ha : DE X T E o f) (hv : DE X T E e g) (hs : swapsWith e (some (.Attribute o x p')) pos.line X.env = pure false := by rfl) : DS X T E (.Assign [.Attribute o x p'] e pos) (sFldS c x f g) :=
  ps_imp (ps_fld ha hv hs) fun D σ H ⟨ρ, α, μ, S, sl, q⟩ => tD_bindS S sl q fun v w H1 α1 μ1 st1 S1 sl1 r1 q1 => tD_bindS S1 sl1 q1 fun v2 w2 H2 α2 μ2 st2 S2 sl2 r2 q2 => by
    split at q2
    · rename_i d k
      split at q2
      · rename_i c' fs e1
        split at q2
        · rename_i ec
          obtain ⟨ec, hl⟩ := ec
          subst ec
          obtain ⟨p, hp, rfl⟩ := r2
          obtain ⟨p', hp', B, dx, gs, hB, hx, hn, rr⟩ := S2.cell k _ (mins_at e1)
          rw [hp] at hp'; cases hp'
          have hB2 : X.mg c' = some (.ref B) := hB
          rw [oc.at_] at hB2
          cases hB2
          have r1' : Rp X.K H2 (Own α2 μ2) v d := r1.step st2
          obtain ⟨n1, n2⟩ := rp_put (x := x) r1' hn rr
          obtain ⟨st3, S3⟩ := own_writeI S2 (mins_at e1) hp hB hx n1 n2
          have lg : gs.length = fs.length := by have := congrArg List.length hn; simpa using this
          exact ⟨p, A, dx, gs, rfl, hx, oc.cls, na, by omega, QS.nx S3 (sl2.step st3) (QS.step q2 st3)⟩
        · exact (show False from q2).elim
      · exact (show False from q2).elim
    · exact (show False from q2).elim
theorem de_meth {k : Nat} {gf : GF} {pl : Sem Bool} (ck : CK X E j) (oc : OwnC X.K X.mg c A) (hf : HasM X.prog X.w X.K X.mg X.base T k A m gf) (ho : DE X T E o f) (hr : DA X T E (e :: es) r) (hk : k ≤ j := by decide)
    (hst : starEach (e :: es) X.env = (false, eval e X.env) :: starEach es X.env := by rfl) (hpl : (backTo pos (starEach es X.env)).any (·.1) = false := by rfl)
    (ht : eval (.Call (.Attribute o m apos) (e :: es) [] pos) X.env = (do
      let ov ← eval o X.env
      standAt apos.atName
      let (f, first) ← holding [ov] (getMethod ov m pl)
      callWith pos f first (backTo pos (starEach (e :: es) X.env)) (backToKw pos (keywordEach [] X.env))) := by rfl) : DE X T E (.Call (.Attribute o m apos) (e :: es) [] pos) (eMeth c m gf f r) := by
  obtain ⟨fa, fd, ps, ds, dvs, dd, g0, h2, h3, h4, h5, h6, h7⟩ := hf.ex
  refine pe_imp (pe_meth (pl := pl) ho oc.cls h2 h7 (ck.room.mono hk) h3 h4 ck.passes hr.pa hst hpl ht) fun σ H Q ⟨ρ, α, μ, S, sl, q⟩ => tD_bind S sl q fun v w H1 α1 μ1 st1 S1 sl1 r1 q1 => ?_
  cases w with
  | m k0 =>
    dsimp only at q1
    split at q1
    · rename_i c' fs e1
      split at q1
      · rename_i ec
        obtain ⟨ec, hl⟩ := ec
        subst ec
        obtain ⟨p, hp, rfl⟩ := r1
        obtain ⟨p', hp', B, dx, gs, hB, hx, hn, rr⟩ := S1.cell k0 _ (mins_at e1)
        rw [hp] at hp'; cases hp'
        have hB : X.mg c' = some (.ref B) := hB
        rw [oc.at_] at hB
        cases hB
        refine ⟨p, dx, gs, rfl, hx, (rp_lookup hn rr).2 hl, ?_⟩
        refine hr.read (C := CvX X T) S1 sl1 q1 fun vs ws H2 α2 μ2 st S2 sl2 rs ln q2 => ?_
        rw [h6] at q2
        exact ⟨.m k0 :: (ws ++ dd.map W.d), α2, μ2, S2, RpWs.cons (w := .m k0) ⟨p, st.pre _ _ hp, rfl⟩ (rs.append (RpAll.ws (h5 _ _))), q2⟩
      · exact (show False from q1).elim
    · exact (show False from q1).elim
  | _ => exact (show False from q1).elim
theorem de_meth0 {k : Nat} {gf : GF} {pl : Sem Bool} (ck : CK X E j) (oc : OwnC X.K X.mg c A) (hf : HasM X.prog X.w X.K X.mg X.base T k A m gf) (ho : DE X T E o f) (hk : k ≤ j := by decide)
    (ht : eval (.Call (.Attribute o m apos) [] [] pos) X.env = (do
      let ov ← eval o X.env
      standAt apos.atName
      let (f, first) ← holding [ov] (getMethod ov m pl)
      callWith pos f first (backTo pos (starEach [] X.env)) (backToKw pos (keywordEach [] X.env))) := by rfl) : DE X T E (.Call (.Attribute o m apos) [] [] pos) (eMeth c m gf f aNil) := by
  obtain ⟨fa, fd, ps, ds, dvs, dd, g0, h2, h3, h4, h5, h6, h7⟩ := hf.ex
  refine pe_imp (pe_meth0 (pl := pl) ho oc.cls h2 h7 (ck.room.mono hk) h3 h4 ck.passes ht) fun σ H Q ⟨ρ, α, μ, S, sl, q⟩ => tD_bind S sl q fun v w H1 α1 μ1 st1 S1 sl1 r1 q1 => ?_
  cases w with
  | m k0 =>
    dsimp only at q1
    split at q1
    · rename_i c' fs e1
      split at q1
      · rename_i ec
        obtain ⟨ec, hl⟩ := ec
        subst ec
        obtain ⟨p, hp, rfl⟩ := r1
        obtain ⟨p', hp', B, dx, gs, hB, hx, hn, rr⟩ := S1.cell k0 _ (mins_at e1)
        rw [hp] at hp'; cases hp'
        have hB : X.mg c' = some (.ref B) := hB
        rw [oc.at_] at hB
        cases hB
        have q1 : PQ (CvX X T) E Q H1 α1 μ1 (gf [.m k0] μ1) := q1
        rw [h6] at q1
        exact ⟨p, dx, gs, rfl, hx, (rp_lookup hn rr).2 hl, .m k0 :: dd.map W.d, α1, μ1, S1, RpWs.cons (w := .m k0) ⟨p, hp, rfl⟩ (RpAll.ws (h5 _ _)), q1⟩
      · exact (show False from q1).elim
    · exact (show False from q1).elim
  | _ => exact (show False from q1).elim
theorem passes_no {CX0 : CXT} {X0 : Cx} (h : Passes CX0 X0 (fun _ _ _ => False)) : Passes CX0 X0 (fun _ _ _ => False) := h
theorem de_new {k : Nat} {gf : GF} {p : Pos} (ck : CK X E j) (hc : X.mg c = some (.ref A)) (hf : HasMk X.prog X.w X.K X.mg X.base T k A gf) (hr : DA X T E (e :: es) r) (hk : k + 1 ≤ j := by decide) (hg : Gl X c := by rfl) (hdb : (c == ("__debug__" : Str)) = false := by decide)
    (he : starEach (e :: es) X.env = (false, eval e X.env) :: starEach es X.env := by rfl) (hpl : (backTo pos (starEach es X.env)).any (·.1) = false := by rfl) : DE X T E (.Call (.Name c p) (e :: es) [] pos) (eNew c gf r) := by
  obtain ⟨fa, fd, ps, ds, dvs, dd, g0, h2, h3, h4, h5, h6, h7⟩ := hf.ex
  refine pe_imp (pe_make h2 h7 (ck.room.mono hk) hg hc h3 h4 ck.passes hr.pa hdb he hpl) fun σ H Q ⟨ρ, α, μ, S, sl, q⟩ => ?_
  refine hr.read (C := CvX X T) S sl q fun vs ws H1 α1 μ1 st S1 sl1 rs ln q1 => ?_
  intro x dx hx hd ne
  have st2 := step_make (A := A) S1 c hx hd ne
  have S2 := stor_make (c := c) (A := A) S1 hc hx hd ne
  refine ⟨.m μ1.length :: (ws ++ dd.map W.d), α1.push x, μ1 ++ [some (.ins c [])], S2, RpWs.cons (w := .m μ1.length) ⟨x, ?_, rfl⟩ ((rs.step st2).append (RpAll.ws (h5 _ _))), ?_⟩
  · show (α1.own ++ [x])[_]? = _
    rw [← S1.len]
    simp
  · have q1 := q1
    rw [h6] at q1
    have q2 : PQ (CvX X T) E Q H1 α1 μ1 ((g0 (.m μ1.length :: ws ++ dd.map W.d) (μ1 ++ [some (.ins c [])])).bind fun r μ2 => match r with
      | .d .none => .ok (.m μ1.length) μ2
      | _ => .no) := q1
    have q3 := q2.step st2
    rw [List.cons_append] at q3
    cases e0 : g0 (.m μ1.length :: (ws ++ dd.map W.d)) (μ1 ++ [some (.ins c [])]) with
    | ok w3 μ3 =>
      rw [e0] at q3
      intro v H' α' st3 S3 rv
      cases w3 with
      | d d =>
        cases d with
        | none =>
          have hv : v = .non := by cases rv; rfl
          refine ⟨hv, ?_⟩
          have q4 : PQ (CvX X T) E Q (upd (upd H1 dx (.own x)) x (.ins A dx [])) (α1.push x) (μ1 ++ [some (.ins c [])]) (.ok (.m μ1.length) μ3) := q3
          refine q4 (.ref x) H' α' st3 S3 ⟨x, st3.pre _ _ ?_, rfl⟩
          show (α1.own ++ [x])[_]? = _
          rw [← S1.len]
          simp
        | _ => exact (show False from q3).elim
      | _ => exact (show False from q3).elim
    | er x3 μ3 =>
      rw [e0] at q3
      exact q3
    | no =>
      rw [e0] at q3
      exact q3
theorem pass_e0 {P0 : Program} {w0 : World} {X0 : Cx} : Passes (L2N.CX P0 w0) X0 (fun _ _ _ => False) := fun pins σ H s e s' _ h => by
  obtain ⟨_, _, _, _, _, _, _, _, _, _, _, _, hE⟩ := h
  exact hE.elim
theorem de_prop {k : Nat} {gf : GF} (ck : CK X E j) (oc : OwnC X.K X.mg c A) (hf : HasP X.prog X.w X.K X.mg X.base T k A x gf) (ha : DE X T E a f) (hk : k + 1 ≤ j := by decide) (hb : attributeBase a x X.env (eval a X.env) = eval a X.env := by rfl) : DE X T E (.Attribute a x pos) (eProp c gf f) := by
  obtain ⟨p0, fa, fd, ps, h1, h2, h3⟩ := hf.ex
  refine pe_imp (pe_prop (E := fun _ _ _ => False) ha oc.cls h1 h3 (ck.room.mono hk) h2 .nil pass_e0 hb) fun σ H Q ⟨ρ, α, μ, S, sl, q⟩ => tD_bind S sl q fun v w H1 α1 μ1 st1 S1 sl1 r1 q1 => ?_
  cases w with
  | m k0 =>
    dsimp only at q1
    split at q1
    · rename_i c' fs e1
      split at q1
      · rename_i ec
        subst ec
        obtain ⟨p, hp, rfl⟩ := r1
        obtain ⟨p', hp', B, dx, gs, hB, hx, hn, rr⟩ := S1.cell k0 _ (mins_at e1)
        rw [hp] at hp'; cases hp'
        have hB : X.mg c' = some (.ref B) := hB
        rw [oc.at_] at hB
        cases hB
        refine ⟨p, dx, gs, rfl, hx, [.m k0], α1, μ1, S1, RpWs.cons (w := .m k0) ⟨p, hp, rfl⟩ .nil, ?_⟩
        cases e0 : gf [.m k0] μ1 with
        | ok w3 μ3 =>
          rw [e0] at q1
          exact q1
        | er x3 μ3 =>
          rw [e0] at q1
          exact (show False from q1).elim
        | no =>
          rw [e0] at q1
          exact (show False from q1).elim
      · exact (show False from q1).elim
    · exact (show False from q1).elim
  | _ => exact (show False from q1).elim
theorem truthy_I {K0 : PySem.W.Frag} {M : Model} {A0 : Around} {s : Shared} {y C1 fm : Addr} {ox : Obj} {od : Option Obj} {E1 : Value → Shared → Prop} {Q : Bool → Shared → Prop} (X0 : K0.In s.heap) (I : PySem.W.InstAt s.heap y ox C1 od) (hs : PySem.W.findIn K0 (.ref C1) "__bool__" = some (some (.ref fm))) (hf : PySem.W.isFn K0 (.ref fm) = true)
    (h : wpAny M A0 (call (.ref fm) [.ref y]) (PySem.W.BoolBack Q) E1 s) : wpAny M A0 (truthy (.ref y)) Q E1 s := by
  unfold truthy
  refine wpAny_bind (m := callSpecial? (.ref y) (Str.ofString "__bool__")) (PySem.W.special_fn X0 I hs (beq_iff_eq.mp hf) (wpAny_mono h (fun r s' hr => ?_) fun _ _ y => y))
  cases r <;> first | exact hr.elim | skip
  exact wpAny_pure hr
theorem pt_own {CX0 : CXT} {k : Nat} {C1 fm : Addr} {fd : FuncData} {ps : List Str} {sp : Sp} {dvs : List V} {ds : List Value} {E1 : XK} {ta : TE} (he : PE X a ta) (hm : Meth X.K C1 "__bool__" fm) (F : FnOk X.prog X.w X.K X.mg X.base CX0 k fm fd ps sp) (hr : Room k X.A) (hb : Binds X.K fd ps ds) (hd : Vals dvs ds) (hx : Passes CX0 X E1)
    (ht : ∀ whole, isTrue a X.env whole = (do let v ← whole; standAt a.pos; holding [v] (truthy v))) :
    PT X a (fun σ H Q => ta σ H fun x H1 => ∃ p dx fs, x = .ref p ∧ H1 p = some (.ins C1 dx fs) ∧ sp (.ref p :: dvs) H1 (fun v H2 => ∃ b, v = .bl b ∧ Q b H2) E1) := by
  refine ⟨fun pins s σ H Q I h => ?_⟩
  refine isTrue_plain (thn (he.run pins s σ H _ I h) fun u s1 ⟨x, H1, I1, rx, p, dx, fs, ex, ea, q⟩ => ?_) (ht _)
  subst ex
  obtain rfl : u = Value.ref p := rx
  obtain ⟨mA, O, _, _, _, _⟩ := ins_get I1.hok ea
  obtain ⟨od, J, _⟩ := O.look
  refine truthy_I I1.kIn J hm.at_ hm.fn (wpAny_mono (run_fn (us := [.ref p]) (vs := [.ref p]) F hr hb hd hx I1 (.cons rfl .nil) q) (fun r s' hr => ?_) fun _ _ y => y)
  obtain ⟨v, H2, I2, rv, b, rfl, q2⟩ := hr
  cases rv
  exact ⟨H2, I2, q2⟩
theorem dt_truM {k : Nat} {gf : GF} (ck : CK X E j) (oc : OwnC X.K X.mg c A) (hf : HasM X.prog X.w X.K X.mg X.base T k A "__bool__" gf) (ha : DE X T E a f) (hk : k ≤ j := by decide)
    (ht : ∀ whole, isTrue a X.env whole = (do let v ← whole; standAt a.pos; holding [v] (truthy v)) := by intro _; rfl) : DT X T E a (eTruM c gf f) := by
  obtain ⟨fa, fd, ps, ds, dvs, dd, g0, h2, h3, h4, h5, h6, h7⟩ := hf.ex
  refine pt_imp (pt_own ha h2 h7 (ck.room.mono hk) h3 h4 ck.passes ht) fun σ H Q ⟨ρ, α, μ, S, sl, q⟩ => tD_bind S sl q fun v w H1 α1 μ1 st1 S1 sl1 r1 q1 => ?_
  cases w with
  | m k0 =>
    dsimp only at q1
    split at q1
    · rename_i c' fs e1
      split at q1
      · rename_i ec
        subst ec
        obtain ⟨p, hp, rfl⟩ := r1
        obtain ⟨p', hp', B, dx, gs, hB, hx, hn, rr⟩ := S1.cell k0 _ (mins_at e1)
        rw [hp] at hp'; cases hp'
        have hB : X.mg c' = some (.ref B) := hB
        rw [oc.at_] at hB
        cases hB
        rw [h6] at q1
        refine ⟨p, dx, gs, rfl, hx, .m k0 :: dd.map W.d, α1, μ1, S1, RpWs.cons (w := .m k0) ⟨p, hp, rfl⟩ (RpAll.ws (h5 _ _)), ?_⟩
        have q1 : PQ (CvX X T) E (fun v H1 => ∃ b, v = .bl b ∧ Q b H1) H1 α1 μ1 ((g0 (.m k0 :: dd.map W.d) μ1).bind fun r μ2 => match r with
          | .d (.bool b) => .ok (.d (.bool b)) μ2
          | _ => .no) := q1
        cases e0 : g0 (.m k0 :: dd.map W.d) μ1 with
        | ok w3 μ3 =>
          rw [e0] at q1
          intro v H' α' st3 S3 rv
          cases w3 with
          | d d =>
            cases d with
            | bool b =>
              have q2 : PQ (CvX X T) E (fun v H1 => ∃ b, v = .bl b ∧ Q b H1) H1 α1 μ1 (.ok (.d (.bool b)) μ3) := q1
              exact q2 v H' α' st3 S3 rv
            | _ => exact (show False from q1).elim
          | _ => exact (show False from q1).elim
        | er x3 μ3 =>
          rw [e0] at q1
          exact q1
        | no =>
          rw [e0] at q1
          exact q1
      · exact (show False from q1).elim
    · exact (show False from q1).elim
  | _ => exact (show False from q1).elim
end
/-! ### methods by their text -/
section
variable {P : Program} {w : World} {K : PySem.W.Frag} {mg : Str → Option Value} {base : Heap} {T : List (Addr × Str)}
theorem fn_okQ {nm x : Str} {params : Arguments} {body : List Stmt} {scope : Scope} {dvs : List V} {kws : List (Str × V)} {f : Addr} {fd : FuncData} {N ps : List Str} {k : Nat} {F : SF} (Fu : FunD K nm x params body scope dvs kws f fd) (S : FnScope N ps scope)
    (hbody : ∀ (cdv : Value) (A : Around) (outer : List PySem.Env) (s : Shared) (H : Hp) (E : XK), CK (cxOf (L2N.CX P w) P w K mg base N x scope f cdv A outer s H E) E k →
      PassesOwn (model P w) (cxOf (L2N.CX P w) P w K mg base N x scope f cdv A outer s H E).A (cxOf (L2N.CX P w) P w K mg base N x scope f cdv A outer s H E).env (cxOf (L2N.CX P w) P w K mg base N x scope f cdv A outer s H E).xe →
      DSs (cxOf (L2N.CX P w) P w K mg base N x scope f cdv A outer s H E) T E body F) : FnOk P w K mg base (L2N.CX P w) (k + 1) f fd ps (spD ⟨K, mg, T⟩ (fnOf ps.length N.length F)) := by
  refine Fu.ok S (fun vs H Q E h => ?_) fun cdv A outer s H vs Q E hr h => ?_
  · obtain ⟨ws, α, μ, S, rs, q⟩ := h
    unfold fnOf at q
    split at q
    · rename_i hl
      rw [rs.length]
      exact hl
    · exact q.elim
  · obtain ⟨ws, α, μ, St, rs, q⟩ := h
    have tk : L2N.Takes (cxOf (L2N.CX P w) P w K mg base N x scope f cdv A outer s H E) (fun cls d _ H => E cls d H) := L2N.takes_of rfl rfl rfl rfl
    refine ⟨_, hbody cdv A outer s H E ⟨rfl, S.nd, hr, tk⟩ (passes_of rfl), ?_⟩
    unfold fnOf at q
    split at q
    · rename_i hl
      refine ⟨startE N.length ws, α, μ, St, ⟨?_, ?_⟩, fin_ok (D := { nx := fun _ H' => Q .non H', rt := Q }) St ⟨rfl, rfl⟩ q⟩
      · have e := rs.length
        simp only [startE, L2.start, List.length_append, List.length_map, List.length_replicate, e]
      · have e := rs.length
        have z := Sl.start rs (N.length - ws.length)
        unfold startE L2.start
        rw [e]
        exact z
    · exact q.elim
/-- a method stands in its class, its parameters bound in their order -/
structure MethFact (K : PySem.W.Frag) (A : Addr) (m qual : Str) (st : Stmt) (ps : List Str) : Prop where
  ex : ∃ f fd dvs kws, FunD K m qual (defArgs st) (defBody st) (defScope st) dvs kws f fd ∧ Meth K A m f ∧ Binds K fd ps []
structure InitFact (K : PySem.W.Frag) (A : Addr) (qual : Str) (st : Stmt) (ps : List Str) : Prop where
  ex : ∃ f fd dvs kws, FunD K "__init__" qual (defArgs st) (defBody st) (defScope st) dvs kws f fd ∧ Mk K A f ∧ Binds K fd ps []
structure PropFact (K : PySem.W.Frag) (A : Addr) (x qual : Str) (st : Stmt) (ps : List Str) : Prop where
  ex : ∃ p f fd dvs kws, FunD K x qual (defArgs st) (defBody st) (defScope st) dvs kws f fd ∧ PropOf K A x p f ∧ Binds K fd ps []
theorem meth_ok {A : Addr} {m x : Str} {st : Stmt} {N ps : List Str} {k : Nat} {F : SF} (d : MethFact K A m x st ps) (S : FnScope N ps (defScope st))
    (hbody : ∀ (f : Addr) (cdv : Value) (A : Around) (outer : List PySem.Env) (s : Shared) (H : Hp) (E : XK), CK (cxOf (L2N.CX P w) P w K mg base N x (defScope st) f cdv A outer s H E) E k →
      PassesOwn (model P w) (cxOf (L2N.CX P w) P w K mg base N x (defScope st) f cdv A outer s H E).A (cxOf (L2N.CX P w) P w K mg base N x (defScope st) f cdv A outer s H E).env (cxOf (L2N.CX P w) P w K mg base N x (defScope st) f cdv A outer s H E).xe →
      DSs (cxOf (L2N.CX P w) P w K mg base N x (defScope st) f cdv A outer s H E) T E (defBody st) F) : HasM P w K mg base T (k + 1) A m (fnOf ps.length N.length F) := by
  obtain ⟨f, fd, dvs, kws, Fu, hm, hb⟩ := d.ex
  exact ⟨f, fd, ps, [], [], [], _, hm, hb, .nil, fun _ _ => .nil, fun ws μ => by rw [List.map_nil, List.append_nil], fn_okQ Fu S (hbody f)⟩
theorem init_ok {A : Addr} {x : Str} {st : Stmt} {N ps : List Str} {k : Nat} {F : SF} (d : InitFact K A x st ps) (S : FnScope N ps (defScope st))
    (hbody : ∀ (f : Addr) (cdv : Value) (A : Around) (outer : List PySem.Env) (s : Shared) (H : Hp) (E : XK), CK (cxOf (L2N.CX P w) P w K mg base N x (defScope st) f cdv A outer s H E) E k →
      PassesOwn (model P w) (cxOf (L2N.CX P w) P w K mg base N x (defScope st) f cdv A outer s H E).A (cxOf (L2N.CX P w) P w K mg base N x (defScope st) f cdv A outer s H E).env (cxOf (L2N.CX P w) P w K mg base N x (defScope st) f cdv A outer s H E).xe →
      DSs (cxOf (L2N.CX P w) P w K mg base N x (defScope st) f cdv A outer s H E) T E (defBody st) F) : HasMk P w K mg base T (k + 1) A (fnOf ps.length N.length F) := by
  obtain ⟨f, fd, dvs, kws, Fu, hm, hb⟩ := d.ex
  exact ⟨f, fd, ps, [], [], [], _, hm, hb, .nil, fun _ _ => .nil, fun ws μ => by rw [List.map_nil, List.append_nil], fn_okQ Fu S (hbody f)⟩
theorem prop_ok {A : Addr} {y x : Str} {st : Stmt} {N ps : List Str} {k : Nat} {F : SF} (d : PropFact K A y x st ps) (S : FnScope N ps (defScope st))
    (hbody : ∀ (f : Addr) (cdv : Value) (A : Around) (outer : List PySem.Env) (s : Shared) (H : Hp) (E : XK), CK (cxOf (L2N.CX P w) P w K mg base N x (defScope st) f cdv A outer s H E) E k →
      PassesOwn (model P w) (cxOf (L2N.CX P w) P w K mg base N x (defScope st) f cdv A outer s H E).A (cxOf (L2N.CX P w) P w K mg base N x (defScope st) f cdv A outer s H E).env (cxOf (L2N.CX P w) P w K mg base N x (defScope st) f cdv A outer s H E).xe →
      DSs (cxOf (L2N.CX P w) P w K mg base N x (defScope st) f cdv A outer s H E) T E (defBody st) F) : HasP P w K mg base T (k + 1) A y (fnOf ps.length N.length F) := by
  obtain ⟨p, f, fd, dvs, kws, Fu, hm, hb⟩ := d.ex
  exact ⟨p, f, fd, ps, hm, hb, fn_okQ Fu S (hbody f)⟩
end
end L3

set_option Elab.async false
set_option linter.all false
set_option maxRecDepth 100000
set_option maxHeartbeats 2000000
/-! min of a list of tuples of ints; x > y of such tuples. -/
namespace Mi
open PySem
def intsT : D → Option (List Int)
  | .tuple l => intsOf l
  | _ => none
/-- x < y, number by number -/
def ltL : List Int → List Int → Bool
  | [], [] => false
  | [], _ :: _ => true
  | _ :: _, [] => false
  | x :: xs, y :: ys => if x = y then ltL xs ys else decide (x < y)
def tupsOf : List D → Option (List (List Int))
  | [] => some []
  | d :: r => (intsT d).bind fun t => (tupsOf r).map (t :: ·)
def minT : List Int → List (List Int) → List Int
  | a, [] => a
  | a, b :: r => minT (if ltL b a = true then b else a) r
def tupI (t : List Int) : D := .tuple (t.map .int)
def bMinT : List D → Option D
  | [.list l] => (tupsOf l).bind fun ts => match ts with
    | [] => none
    | a :: r => some (tupI (minT a r))
  | _ => none
def bMinA (ds : List D) : Option D := match bMin1 ds with
  | some z => some z
  | none => bMinT ds
def bBool : List D → Option D
  | [.int i] => some (.bool (i != 0))
  | [.bool b] => some (.bool b)
  | _ => none
def dGtT : D → D → Option D
  | .int a, .int b => some (.bool (decide (b < a)))
  | .tuple x, .tuple y => (intsOf x).bind fun xs => (intsOf y).map fun ys => .bool (ltL ys xs)
  | _, _ => none
end Mi
namespace L3
open PySem PySem.Spec PyProof.Rows L2 Mi
theorem intsOf_map : ∀ {l : List D} {ns : List Int}, intsOf l = some ns → l = ns.map .int
  | [], ns, e => by cases e; rfl
  | .int x :: r, ns, e => by
    unfold intsOf at e
    cases e1 : intsOf r with
    | none => rw [e1] at e; cases e
    | some ms =>
      rw [e1] at e
      cases e
      rw [intsOf_map e1]
      rfl
theorem intsT_eq {d : D} {t : List Int} (e : intsT d = some t) : d = tupI t := by
  unfold intsT at e
  split at e
  · rw [intsOf_map e]; rfl
  · cases e
theorem tupsOf_map : ∀ {l : List D} {ts : List (List Int)}, tupsOf l = some ts → l = ts.map tupI
  | [], ts, e => by cases e; rfl
  | d :: r, ts, e => by
    unfold tupsOf at e
    cases e1 : intsT d with
    | none => rw [e1] at e; cases e
    | some t =>
      rw [e1] at e
      cases e2 : tupsOf r with
      | none => rw [e2] at e; cases e
      | some us =>
        rw [e2] at e
        cases e
        rw [intsT_eq e1, tupsOf_map e2]
        rfl
theorem toks_ints : ∀ xs ys : List Int, lexLt PyProof.Rows.itemOrd (PySem.W.keyToksAll (xs.map PyData.int)) (PySem.W.keyToksAll (ys.map PyData.int)) = ltL xs ys
  | [], [] => by rfl
  | [], y :: ys => by
    show lexLt PyProof.Rows.itemOrd [.inl 0] (.inl 1 :: _) = true
    rw [lex_diff (O := PyProof.Rows.itemOrd) (by intro z; cases z)]
    rfl
  | x :: xs, [] => by
    show lexLt PyProof.Rows.itemOrd (.inl 1 :: _) [.inl 0] = false
    rw [lex_diff (O := PyProof.Rows.itemOrd) (by intro z; cases z)]
    rfl
  | x :: xs, y :: ys => by
    have ih := toks_ints xs ys
    rw [List.map_cons, List.map_cons, PySem.W.keyToksAll, PySem.W.keyToksAll, lex_self]
    show lexLt PyProof.Rows.itemOrd (.inl x :: PySem.W.keyToksAll (xs.map PyData.int)) (.inl y :: PySem.W.keyToksAll (ys.map PyData.int)) = _
    unfold ltL
    by_cases h : x = y
    · subst h
      rw [if_pos rfl, lex_self, ih]
    · rw [if_neg h, lex_diff (O := PyProof.Rows.itemOrd) (fun z => h (by cases z; rfl))]
      rfl
theorem dataLt_tupI (x y : List Int) : PySem.W.dataLt (tupI x) (tupI y) = ltL x y := toks_ints x y
theorem alike_ints : ∀ xs ys : List Int, PySem.W.alikeAll (xs.map PyData.int) (ys.map PyData.int) = true
  | [], ys => by cases ys <;> rfl
  | x :: xs, [] => rfl
  | x :: xs, y :: ys => by
    rw [List.map_cons, List.map_cons, PySem.W.alikeAll, alike_ints xs ys]
    rfl
theorem alike_tupI (x y : List Int) : PySem.W.alike (tupI x) (tupI y) = true := alike_ints x y
theorem depth_ints : ∀ xs : List Int, PyData.depthAll (xs.map PyData.int) ≤ 1
  | [] => by decide
  | x :: xs => by
    have ih := depth_ints xs
    rw [List.map_cons]
    show max (PyData.int x).depth (PyData.depthAll (xs.map PyData.int)) ≤ 1
    have : (PyData.int x).depth ≤ 1 := by show (PyData.int 0).depth ≤ 1; decide
    omega
theorem depth_tupI (x : List Int) : (tupI x).depth ≤ 2 := by
  have := depth_ints x
  show PyData.depth (.tuple (x.map PyData.int)) ≤ 2
  rw [PyData.depth]
  omega
theorem depth_tIs : ∀ ts : List (List Int), PyData.depthAll (ts.map tupI) ≤ 2
  | [] => by decide
  | t :: ts => by
    have ih := depth_tIs ts
    have := depth_tupI t
    rw [List.map_cons]
    show max (tupI t).depth (PyData.depthAll (ts.map tupI)) ≤ 2
    omega
theorem minD_tupI : ∀ (t : List Int) (ts : List (List Int)), PySem.W.minD (tupI t) (ts.map tupI) = tupI (minT t ts)
  | t, [] => rfl
  | t, u :: ts => by
    have e : PySem.W.minD (tupI t) ((u :: ts).map tupI) = PySem.W.minD (if PySem.W.dataLt (tupI u) (tupI t) then tupI u else tupI t) (ts.map tupI) := rfl
    rw [e, dataLt_tupI]
    unfold minT
    cases ltL u t with
    | true => exact minD_tupI u ts
    | false => exact minD_tupI t ts
section
variable {X : Cx}
def rMinT (K : PySem.W.Frag) : List V → Hp → VK → Prop := fun vs H Q => ∃ (a : Addr) (ys : List V) (t : List Int) (ts : List (List Int)), vs = [V.ref a] ∧ SqL K H a ys ∧ DpAll K H ys ((t :: ts).map tupI) ∧
  ∀ (i : Nat) v, ys[i]? = some v → ((t :: ts).map tupI)[i]? = some (tupI (minT t ts)) → Q v H
theorem vals_at {ys : List V} {its : List Value} (h : Vals ys its) : ∀ {i : Nat} {u : Value}, its[i]? = some u → ∃ v, ys[i]? = some v ∧ RelV v u := by
  induction h with
  | nil => intro i u e; simp at e
  | cons r t ih =>
    intro i u e
    cases i with
    | zero => cases e; exact ⟨_, rfl, r⟩
    | succ i => exact ih (i := i) (by simpa using e)
theorem call_minT (hc : X.calm = true) (hu : X.A.units + 64 < cLine) : CallR X (.builtin "min") (rMinT X.K) := by
  intro pins s σ H vs us Q I r h
  obtain ⟨a, ys, t, ts, rfl, hs, hd, q⟩ := h
  obtain ⟨its, rv, hl, _⟩ := I.list hs
  rw [Vals.ref1 r]
  obtain ⟨as, h4⟩ := Dp.readsAll I _ ys its hd rv
  have ha : PySem.W.AlikeAll ((t :: ts).map tupI) := ⟨fun x hx y hy => by
    obtain ⟨x, _, rfl⟩ := List.mem_map.mp hx
    obtain ⟨y, _, rfl⟩ := List.mem_map.mp hy
    exact alike_tupI x y, fun x hx => by
    obtain ⟨x, _, rfl⟩ := List.mem_map.mp hx
    intro z
    cases z⟩
  have hdp := depth_tIs (t :: ts)
  refine PySem.W.min_list_data (x := tupI t) (xs := ts.map tupI) (I.ok.hd hc) hl.isList (show ReadsAll s.heap its.toArray.toList (tupI t :: ts.map tupI) as from h4) ha (by
    have : PyData.depthAll (tupI t :: ts.map tupI) ≤ 2 := hdp
    omega) fun i v h' tk bs hv hr hk => ?_
  have hv : its[i]? = some v := by simpa using hv
  obtain ⟨x, hx, rx⟩ := vals_at rv hv
  obtain ⟨cs, r1, hi, _, _⟩ := PySem.W.readsAll_at (show ReadsAll s.heap its (tupI t :: ts.map tupI) as from h4) i v hv
  have hi2 : i < (t :: ts).length := by simpa using hi
  have ed : (tupI t :: ts.map tupI).getD i .none = tupI ((t :: ts)[i]) := by
    rw [List.getD_eq_getElem?_getD, ← List.map_cons, List.getElem?_map, List.getElem?_eq_getElem hi2]
    rfl
  rw [minD_tupI] at hr
  rw [ed] at r1
  have eq := PySem.W.alike_unique _ _ v _ _ (alike_tupI _ _) (Reads.keeps hk r1) hr
  refine ⟨x, H, I.kept hk, rx, q i x hx ?_⟩
  rw [List.getElem?_map, List.getElem?_eq_getElem hi2, Option.map_some, eq]
def rGtT (K : PySem.W.Frag) : R2 := fun x y H Q => ∃ xs ys : List Int, Dp K H x (tupI xs) ∧ Dp K H y (tupI ys) ∧ Q (.bl (ltL ys xs)) H
theorem op_gtT (hu : X.A.units + 64 < cLine) : OpR X (compareOp .Gt) (rGtT X.K) := by
  intro pins s σ H x y v u Q I rx ry h
  obtain ⟨xs, ys, hx, hy, q⟩ := h
  obtain ⟨as, r1⟩ := Dp.reads I _ x v hx rx
  obtain ⟨bs, r2⟩ := Dp.reads I _ y u hy ry
  have d1 := depth_tupI xs
  have d2 := depth_tupI ys
  refine PySem.W.rcGt_alike (tupI xs) (tupI ys) X.A s v u as bs r1 r2 (alike_tupI _ _) (fun z => by cases z) (by omega) X.prog X.w _ _ ?_
  rw [dataLt_tupI]
  exact ⟨.bl _, H, I, rfl, q⟩
end
section
variable {C : Cv}
theorem bs_minT : BlS C bMinT (rMinT C.K) := by
  intro H α μ xs ds z Q S rs e q
  unfold bMinT at e
  split at e
  · rename_i l
    cases e1 : tupsOf l with
    | none => rw [e1] at e; cases e
    | some ts =>
      rw [e1] at e
      cases ts with
      | nil => cases e
      | cons a r =>
        cases e
        obtain ⟨x, rfl, r0⟩ := rs.one
        obtain ⟨p1, ys, rfl, h1, r1⟩ := r0.list
        have el := tupsOf_map e1
        subst el
        refine ⟨p1, ys, a, r, rfl, .inl h1, r1.dp, fun i v hv hd => ?_⟩
        obtain ⟨v', hv', rp⟩ := r1.get hd
        rw [hv] at hv'
        cases hv'
        exact q v H (.refl H) rp
  · cases e
theorem bs_minA : BlS C bMinA (fun xs H Q => rMin C.K xs H Q ∨ rMinT C.K xs H Q) := by
  intro H α μ xs ds z Q S rs e q
  unfold bMinA at e
  cases e1 : bMin1 ds with
  | some y =>
    rw [e1] at e
    cases e
    exact .inl (bs_min1 H α μ xs ds z Q S rs e1 q)
  | none =>
    rw [e1] at e
    exact .inr (bs_minT H α μ xs ds z Q S rs e q)
theorem bs_bool : BlS C bBool (fun xs H Q => (∃ i, xs = [.int i] ∧ Q (.bl (i != 0)) H) ∨ ∃ k, xs = [.bl k] ∧ Q (.bl k) H) := by
  intro H α μ xs ds z Q S rs e q
  unfold bBool at e
  split at e
  · cases e
    obtain ⟨x, rfl, r1⟩ := rs.one
    exact .inl ⟨_, by rw [r1.int], q _ H (.refl H) (.bl _)⟩
  · cases e
    obtain ⟨x, rfl, r1⟩ := rs.one
    exact .inr ⟨_, by rw [r1.bl], q _ H (.refl H) (.bl _)⟩
  · cases e
theorem os_gtT : OpS C dGtT (fun x y H Q => (rI0 fun i j => .bl (decide (j < i))) x y H Q ∨ rGtT C.K x y H Q) := by
  intro H α μ x y a b z Q S ra rb e q
  unfold dGtT at e
  split at e
  · cases e
    exact .inl ⟨_, _, ra.int, rb.int, q _ H (.refl H) (.bl _)⟩
  · rename_i l1 l2
    cases e1 : intsOf l1 with
    | none => rw [e1] at e; cases e
    | some xs =>
      rw [e1] at e
      cases e2 : intsOf l2 with
      | none => rw [e2] at e; cases e
      | some ys =>
        rw [e2] at e
        cases e
        have h1 := intsOf_map e1
        have h2 := intsOf_map e2
        subst h1 h2
        exact .inr ⟨xs, ys, ra.dp, rb.dp, q _ H (.refl H) (.bl _)⟩
  · cases e
end
end L3

set_option Elab.async false
set_option linter.all false
set_option maxRecDepth 100000
set_option maxHeartbeats 2000000
/-! From the head's facts to the layer's. -/
namespace L3
open PySem PySem.Spec PyProof.Rows L2 Mi He
section
variable {K : PySem.W.Frag} {mg : Str → Option Value} {h : Heap}
def excCB (K : PySem.W.Frag) (D : Addr) : Bool :=
  eqO (PySem.W.findIn K (.ref D) "__getattribute__") (some (some (.builtin "BaseException.__getattribute__"))) && (eqO (PySem.W.findIn K (.ref D) "__getattr__") (some none) && (decide (PySem.W.subIn K (.ref D) (.type "BaseException") = some true) &&
    (PySem.W.hasDictIn K D && (eqO (PySem.W.findIn K (.ref D) "__class__") (some (some (.builtin "object.__class__"))) && (eqO (PySem.W.specialIn K (.builtin "object.__class__") "__get__") (some (some (.builtin "getset_descriptor.__get__"))) &&
      (decide (PySem.W.takesIn K (.builtin "object.__class__") = some true) && decide (PySem.W.mroIn K D (.type "object") = some true)))))))
theorem excCB_ok {D : Addr} (h : excCB K D = true) : ExcC K D := by
  unfold excCB at h
  simp only [Bool.and_eq_true, decide_eq_true_eq] at h
  obtain ⟨h1, h2, h3, h4, h5, h6, h7, h8⟩ := h
  exact ⟨eqO_ok h1, eqO_ok h2, h3, h4, eqO_ok h5, eqO_ok h6, h7, h8⟩
/-- the row of the own class x -/
def rowB (K : PySem.W.Frag) (x : Str) : Bool := match ownCls.idxOf? x with
  | none => false
  | some i => excCB K (ga K x) && (decide (PySem.W.exmOne K (.ref (ga K x)) (.ref (ga K "WalkError")) = some true) && (decide (PySem.W.kitOne K (.ref (ga K x)) (.type "ValueError") = some (bOf i 16)) &&
      ((List.range 16).all fun j => decide (PySem.W.kitOne K (.ref (ga K x)) (.ref (ga K (ownCls.getD j ""))) = some (bOf i j)))))
theorem rowB_ok {x : Str} (h : rowB K x = true) (hx : mg x = some (.ref (ga K x))) (hW : mg "WalkError" = some (.ref (ga K "WalkError"))) (hg : ∀ y ∈ ownCls, mg y = some (.ref (ga K y))) : ClsRow K mg x := by
  unfold rowB at h
  split at h
  · cases h
  · rename_i i hi
    simp only [Bool.and_eq_true, decide_eq_true_eq, List.all_eq_true] at h
    obtain ⟨h1, h2, h3, h4⟩ := h
    refine ⟨i, ga K x, ga K "WalkError", hi, hx, hW, h2, excCB_ok h1, fun j y A hj hy => ?_, h3⟩
    have e := hg y (List.mem_of_getElem? hj)
    rw [hy] at e
    cases e
    have hlt : j < 16 := (List.getElem?_eq_some_iff.mp hj).1
    have z := h4 j (List.mem_range.mpr hlt)
    rw [show ownCls.getD j "" = y from by rw [List.getD_eq_getElem?_getD, hj]; rfl] at z
    exact z
theorem rpAll_strsV {H : Hp} {M : Addr → Prop} : ∀ ys : List Str, RpAll K H M ((ys.map Dv.str).map (Dv.v K)) (ys.map PyData.str)
  | [] => .nil
  | y :: ys => .cons (.str y) (rpAll_strsV ys)
theorem gtup_ok {x : Str} {ys : List Str} (h : tupB K x (ys.map Dv.str) = true) (hx : mg x = some (.ref (ga K x))) : GTup K mg x (ys.map PyData.str) :=
  ⟨ga K x, _, hx, fun H M => ⟨tupB_ok h H, rpAll_strsV ys⟩⟩
theorem ownEx_ok {x : Str} (c : (Fa.exc x).ok K = true) (hx : mg x = some (.ref (ga K x))) : OwnEx K mg x := by
  obtain ⟨h1, h2, h3, h4⟩ := exc_ok c
  exact ⟨ga K x, hx, h2, h1, h3, h4⟩
/-- no list stands among what is written -/
def noLists (K : PySem.W.Frag) : Bool := K.all fun p => !decide (p.2.cls = .type "list")
theorem noLists_rd (n : noLists K = true) {H : Hp} {a : Addr} {xs : List V} (h : SqL K H a xs) : Rd H a (.lst xs) := by
  rcases h with h | ⟨o, its, m, lk, hc, _⟩
  · exact h
  · have z := List.all_eq_true.mp n (a, o) (He.lookup_mem lk)
    simp [hc] at z
theorem rpAll_intsV {H : Hp} {M : Addr → Prop} (ns : List Int) : RpAll K H M (ns.map V.int) (ns.map PyData.int) := rpAll_ints ns
/-- what a law's statement asks, from the walk of its def and its plain law -/
theorem law_at {l : PySem.W.OpenLaw} {w : World} {fa : Addr} {n k : Nat} {st : Stmt} {g : GF} {fs : List Fa} {fn : List DefD} {ts : List Tab} {ex : PySem.W.Frag → Bool} {fd : FuncData} {kws : List (Str × V)} (X : K.In h) (G : h.Ns mainGlobals mg)
    (c : SaysX fs fn ts [("law", none)] ex w h K) (hm : mg "law" = some (.ref (ga K "law"))) (hfa : mg "law" = some (.ref fa)) (Fu : FunD K "law" "law" (defArgs st) (defBody st) (defScope st) [] kws (ga K "law") fd)
    (hbind : ∀ (kV doc pm : Value) (an : Option Addr) (cdv ct : Value) (us : List Value), us.length = ["script"].length → bindArgs (PySem.W.fnOf "law" "law" (defArgs st) (defBody st) (defScope st) .none kV doc pm an cdv ct) ⟨us, []⟩ = pure ((["script"] : List Str).zip us)) (hn : noLists K = true)
    (Fn : ∀ (base : Heap) (T : List (Addr × Str)), DefL K mg base T "law" st ["script"] fa fd → FnOk l.prog w K mg base (L2N.CX l.prog w) k fa fd ["script"] (spD ⟨K, mg, T⟩ g))
    (pure : ∀ ns : List Int, ns.length ≤ n → (∀ z ∈ ns, Builtin.Int.intBits z ≤ 1048576) → g [.d (.list (ns.map .int))] [] = .ok (.d (.bool true)) []) : LamX.LawAtS l w K (L2N.CX l.prog w) k n "script" mg fa h := by
  have e := hm.symm.trans hfa
  injection e with e
  injection e with e
  subst e
  have hb : Binds K fd ["script"] [] := Fu.bindsN hbind
  have hA := Fu.bindsA (ps := ["script"]) hbind
  obtain ⟨oc, od, dV, kV, doc, pm, an, cdv, ct, osl, rfl, lk, hcdi, _, _⟩ := Fu.ex
  obtain ⟨cc, rfl⟩ := codeIn_ref hcdi
  have hcc : codeOf K ("law", none) = cc := codeOf_eq (p := ("law", none)) lk rfl
  have mem : (("law", none) : Defn) ∈ ([("law", none)] : List Defn) := List.mem_singleton.mpr rfl
  refine ⟨_, [cT K ("law", none)], spD ⟨K, mg, [((cT K ("law", none)).2, qLam "law")]⟩ g, fun p hp => ?_, fun p hp => ?_, fun p hp => ?_, fun s u => hA s [u] rfl, fun H a ns hl hbits hT hS => ?_, fun base KB NB TB => ?_⟩
  · obtain rfl := List.mem_singleton.mp hp; exact c.empty _ mem
  · obtain rfl := List.mem_singleton.mp hp; exact c.out _ mem
  · obtain rfl := List.mem_singleton.mp hp; exact PySem.W.codeHd_of_K X (c.hd _ mem)
  · have no : ∀ b, ¬ Own ⟨[], []⟩ [] b := fun b z => by
      rcases z with ⟨k, c, h1, _⟩ | z
      · cases h1
      · cases z
    refine ⟨[.d (.list (ns.map .int))], ⟨[], []⟩, [], ⟨rfl, List.Pairwise.nil, (fun b hb => by cases hb), (fun k c e => by cases e), fun p hp => ?_⟩, .cons (.lst (noLists_rd hn hS) (no a) (rpAll_ints ns)) .nil, ?_⟩
    · obtain rfl := List.mem_singleton.mp hp
      exact LamX.TabS.nil (hT _ (List.mem_singleton.mpr rfl))
    · rw [pure ns hl hbits]
      intro v H' α' st S r
      cases r
      rfl
  · refine Fn base _ ⟨⟨_, _, Fu⟩, hm, hb, cc, (cT K ("law", none)).2, rfl, ?_, List.mem_singleton.mpr rfl, fun p hp _ => ?_⟩
    · have z := TB _ (List.mem_singleton.mpr rfl)
      rw [show (cT K ("law", none)).1 = cc from hcc] at z
      exact z
    · obtain rfl := List.mem_singleton.mp hp
      rfl
/-- the lambdas of the def x -/
def LamC (K : PySem.W.Frag) (mg : Str → Option Value) (base : Heap) (T : List (Addr × Str)) (x : Str) : Prop := ∃ P, LamX.TabB base mg (codeOf K (x, none)) P ∧ (P, qLam x) ∈ T ∧ ∀ p ∈ T, p.1 = P → p.2 = qLam x
theorem LamC.defL {base : Heap} {T : List (Addr × Str)} {x : Str} {st : Stmt} {ps : List Str} {fd : FuncData} {dvs : List V} {kws : List (Str × V)} (L : LamC K mg base T x) (hm : mg x = some (.ref (ga K x))) (Fu : FunD K x x (defArgs st) (defBody st) (defScope st) dvs kws (ga K x) fd) (hb : Binds K fd ps []) : DefL K mg base T x st ps (ga K x) fd := by
  obtain ⟨P, TB, hT, hu⟩ := L
  obtain ⟨oc, od, dV, kV, doc, pm, an, cdv, ct, osl, rfl, lk, hcdi, _, _⟩ := Fu.ex
  obtain ⟨cc, rfl⟩ := codeIn_ref hcdi
  have hcc : codeOf K (x, none) = cc := codeOf_eq (p := (x, none)) lk rfl
  exact ⟨⟨dvs, kws, Fu⟩, hm, hb, cc, P, rfl, by rw [← hcc]; exact TB, hT, hu⟩
def tabsOf (K : PySem.W.Frag) (ds : List Str) : List (Addr × Str) := ds.map fun x => ((cT K (x, none)).2, qLam x)
/-- the tables of the lambdas are apart -/
def apartB (K : PySem.W.Frag) (ds : List Str) : Bool := (tabsOf K ds).all fun p => (tabsOf K ds).all fun q => !(p.1 == q.1) || p.2 == q.2
theorem lamC_of {base : Heap} {ds : List Str} {x : Str} (hx : x ∈ ds) (ha : apartB K ds = true) (TB : LamX.TabB base mg (codeOf K (x, none)) (cT K (x, none)).2) : LamC K mg base (tabsOf K ds) x := by
  have hm : ((cT K (x, none)).2, qLam x) ∈ tabsOf K ds := List.mem_map.mpr ⟨x, hx, rfl⟩
  refine ⟨_, TB, hm, fun p hp e => ?_⟩
  have z := List.all_eq_true.mp (List.all_eq_true.mp ha p hp) _ hm
  rcases Bool.or_eq_true _ _ ▸ z with z | z
  · rw [e] at z
    simp at z
  · exact eq_of_beq z
/-- what a law's statement asks, from the walk of its def and its plain law; ds: the defs with lambdas -/
theorem law_atL {l : PySem.W.OpenLaw} {w : World} {fa : Addr} {n k : Nat} {st : Stmt} {g : GF} {fs : List Fa} {fn : List DefD} {ts : List Tab} {ds : List Str} {ex : PySem.W.Frag → Bool} {fd : FuncData} {kws : List (Str × V)} (X : K.In h) (G : h.Ns mainGlobals mg)
    (c : SaysX fs fn ts (ds.map fun x => (x, none)) ex w h K) (hm : mg "law" = some (.ref (ga K "law"))) (hfa : mg "law" = some (.ref fa)) (Fu : FunD K "law" "law" (defArgs st) (defBody st) (defScope st) [] kws (ga K "law") fd)
    (hbind : ∀ (kV doc pm : Value) (an : Option Addr) (cdv ct : Value) (us : List Value), us.length = ["script"].length → bindArgs (PySem.W.fnOf "law" "law" (defArgs st) (defBody st) (defScope st) .none kV doc pm an cdv ct) ⟨us, []⟩ = pure ((["script"] : List Str).zip us)) (hn : noLists K = true) (ha : apartB K ds = true)
    (Fn : ∀ (base : Heap), (∀ x ∈ ds, LamC K mg base (tabsOf K ds) x) → Binds K fd ["script"] [] → FnOk l.prog w K mg base (L2N.CX l.prog w) k fa fd ["script"] (spD ⟨K, mg, tabsOf K ds⟩ g))
    (pure : ∀ ns : List Int, ns.length ≤ n → (∀ z ∈ ns, Builtin.Int.intBits z ≤ 1048576) → g [.d (.list (ns.map .int))] [] = .ok (.d (.bool true)) []) : LamX.LawAtS l w K (L2N.CX l.prog w) k n "script" mg fa h := by
  have e := hm.symm.trans hfa
  injection e with e
  injection e with e
  subst e
  have hb : Binds K fd ["script"] [] := Fu.bindsN hbind
  have hA := Fu.bindsA (ps := ["script"]) hbind
  have mem : ∀ p ∈ ds.map (fun x => cT K (x, none)), ∃ x ∈ ds, cT K (x, none) = p ∧ ((x, none) : Defn) ∈ (ds.map fun x => ((x, none) : Defn)) := fun p hp => by
    obtain ⟨x, hx, e⟩ := List.mem_map.mp hp
    exact ⟨x, hx, e, List.mem_map.mpr ⟨x, hx, rfl⟩⟩
  refine ⟨_, ds.map (fun x => cT K (x, none)), spD ⟨K, mg, tabsOf K ds⟩ g, fun p hp => ?_, fun p hp => ?_, fun p hp => ?_, fun s u => hA s [u] rfl, fun H a ns hl hbits hT hS => ?_, fun base KB NB TB => ?_⟩
  · obtain ⟨x, hx, rfl, hm⟩ := mem p hp; exact c.empty _ hm
  · obtain ⟨x, hx, rfl, hm⟩ := mem p hp; exact c.out _ hm
  · obtain ⟨x, hx, rfl, hm⟩ := mem p hp; exact PySem.W.codeHd_of_K X (c.hd _ hm)
  · have no : ∀ b, ¬ Own ⟨[], []⟩ [] b := fun b z => by
      rcases z with ⟨k, c, h1, _⟩ | z
      · cases h1
      · cases z
    refine ⟨[.d (.list (ns.map .int))], ⟨[], []⟩, [], ⟨rfl, List.Pairwise.nil, (fun b hb => by cases hb), (fun k c e => by cases e), fun p hp => ?_⟩, .cons (.lst (noLists_rd hn hS) (no a) (rpAll_ints ns)) .nil, ?_⟩
    · obtain ⟨x, hx, rfl⟩ := List.mem_map.mp (show p ∈ tabsOf K ds from hp)
      exact LamX.TabS.nil (hT _ (List.mem_map.mpr ⟨x, hx, rfl⟩))
    · rw [pure ns hl hbits]
      intro v H' α' st S r
      cases r
      rfl
  · exact Fn base (fun x hx => lamC_of hx ha (TB _ (List.mem_map.mpr ⟨x, hx, rfl⟩))) hb
end
end L3

set_option Elab.async false
set_option linter.all false
set_option maxRecDepth 100000
set_option maxHeartbeats 2000000
/-! The head's facts of classes: objects, methods, properties and their getters. -/
namespace L3
open PySem PySem.Spec PyProof.Rows L2 Mi He
/-- where a property's getter stands -/
def gAd (K : PySem.W.Frag) (p : Str × Str) : Addr := match PySem.W.recIn K (ma K (ga K p.1) p.2) "property" with
  | some (.ref g :: _) => g
  | _ => 0
def fnP (K : PySem.W.Frag) (p : Str × Str) : FnW := match K.lookup (gAd K p) with
  | some ⟨_, _, .func fd, _⟩ => some (fd.name, fd.qualname, fd.params, fd.body, fd.scope, fd.globals, fd.closure, fd.builtins)
  | _ => none
structure PrD where
  cls : Str
  name : Str
  qual : Str
  params : Arguments
  body : List Stmt
  scope : Scope
def PrD.at_ (d : PrD) : Str × Str := (d.cls, d.name)
def PrD.val (d : PrD) : FnW := some (d.name, d.qual, d.params, .stmts d.body, d.scope, mainGlobals, [], builtinsNs)
def propB (K : PySem.W.Frag) (d : PrD) : Bool :=
  eqO (PySem.W.findIn K (.ref (ga K d.cls)) d.name) (some (some (.ref (ma K (ga K d.cls) d.name)))) &&
  (eqO (PySem.W.specialIn K (.ref (ma K (ga K d.cls) d.name)) "__get__") (some (some (.builtin "property.__get__"))) &&
  (decide (PySem.W.takesIn K (.ref (ma K (ga K d.cls) d.name)) = some true) &&
  ((match PySem.W.recIn K (ma K (ga K d.cls) d.name) "property" with | some (.ref _ :: _) => true | _ => false) &&
  (PySem.W.keepIn K (.ref (gAd K d.at_)) && (match K.lookup (gAd K d.at_) with
    | some ⟨_, _, .func fd, _⟩ => PySem.W.codeIn K fd.code d.qual && (dflB K fd.defaults [] && kwdB K fd.kwdefaults [])
    | _ => false)))))
section
variable {K : PySem.W.Frag}
theorem propB_ok {d : PrD} (c : propB K d = true) (e : fnP K d.at_ = d.val) : PropOf K (ga K d.cls) d.name (ma K (ga K d.cls) d.name) (gAd K d.at_) ∧ ∃ fd, FunD K d.name d.qual d.params d.body d.scope [] [] (gAd K d.at_) fd := by
  unfold propB at c
  obtain ⟨c1, c⟩ := ba c
  obtain ⟨c2, c⟩ := ba c
  obtain ⟨c3, c⟩ := ba c
  obtain ⟨c4, c⟩ := ba c
  obtain ⟨c5, c6⟩ := ba c
  refine ⟨⟨eqO_ok c1, eqO_ok c2, of_decide_eq_true c3, ?_⟩, ?_⟩
  · unfold gAd PrD.at_
    cases q : PySem.W.recIn K (ma K (ga K d.cls) d.name) "property" with
    | none => rw [q] at c4; cases c4
    | some vs =>
      rw [q] at c4
      cases vs with
      | nil => cases c4
      | cons v r =>
        cases v with
        | ref g => exact ⟨r, rfl⟩
        | _ => cases c4
  · unfold fnP at e
    cases q : K.lookup (gAd K d.at_) with
    | none => rw [q] at c6; cases c6
    | some o =>
      obtain ⟨oc, od, dt, osl⟩ := o
      rw [q] at c6 e
      cases dt with
      | func fd =>
        have c7 : (PySem.W.codeIn K fd.code d.qual && (dflB K fd.defaults [] && kwdB K fd.kwdefaults [])) = true := c6
        have e2 : (some (fd.name, fd.qualname, fd.params, fd.body, fd.scope, fd.globals, fd.closure, fd.builtins) : FnW) = some (d.name, d.qual, d.params, .stmts d.body, d.scope, mainGlobals, [], builtinsNs) := e
        obtain ⟨k1, k2⟩ := ba c7
        obtain ⟨k3, k4⟩ := ba k2
        cases fd with
        | mk a1 a2 a3 a4 a5 a6 a7 a8 a9 a10 a11 a12 a13 a14 a15 =>
          simp only [Option.some.injEq, Prod.mk.injEq] at e2
          obtain ⟨h1, h2, h3, h4, h5, h6, h7, h8⟩ := e2
          subst h1 h2 h3 h4 h5 h6 h7 h8
          exact ⟨_, ⟨oc, od, a8, a9, a10, a11, a12, a13, a14, osl, rfl, q, k1, dflB_ok k3, kwdB_ok k4⟩, c5⟩
      | _ => cases c6
theorem prop_fact {d : PrD} {ps : List Str} {st : Stmt} (c : propB K d = true) (e : fnP K d.at_ = d.val) (h1 : d.params = defArgs st) (h2 : d.body = defBody st) (h3 : d.scope = defScope st)
    (hb : ∀ fd, FunD K d.name d.qual d.params d.body d.scope [] [] (gAd K d.at_) fd → Binds K fd ps []) : PropFact K (ga K d.cls) d.name d.qual st ps := by
  obtain ⟨p, fd, F⟩ := propB_ok c e
  refine ⟨_, _, fd, [], [], ?_, p, hb fd F⟩
  rw [← h1, ← h2, ← h3]
  exact F
theorem own_cls {mg : Str → Option Value} {x : Str} (c : (Fa.cls x).ok K = true) (hx : mg x = some (.ref (ga K x))) : OwnC K mg x (ga K x) := by
  have c2 : (PySem.W.plainGet K (ga K x) Str.empty && (PySem.W.hasDictIn K (ga K x) && (PySem.W.plainOver K (ga K x) && eqO (PySem.W.findIn K (.ref (ga K x)) "__setattr__") (some (some (.builtin "object.__setattr__")))))) = true := c
  obtain ⟨h1, c3⟩ := ba c2
  obtain ⟨h2, c4⟩ := ba c3
  obtain ⟨h3, h4⟩ := ba c4
  exact ⟨hx, h1, h2, h3, eqO_ok h4⟩
theorem no_attr {x f : Str} (c : (Fa.noat x f).ok K = true) : NoAttr K (ga K x) f := eqO_ok c
theorem meth_fact {x m qual : Str} {st : Stmt} {ps : List Str} {dvs : List V} {kws : List (Str × V)} {fd : FuncData} (c : (Fa.meth x m).ok K = true) (F : FunD K m qual (defArgs st) (defBody st) (defScope st) dvs kws (ma K (ga K x) m) fd) (hb : Binds K fd ps []) : MethFact K (ga K x) m qual st ps := by
  have c2 : (eqO (PySem.W.findIn K (.ref (ga K x)) m) (some (some (.ref (ma K (ga K x) m)))) && (PySem.W.isFn K (.ref (ma K (ga K x) m)) && PySem.W.keepIn K (.ref (ma K (ga K x) m)))) = true := c
  obtain ⟨h1, c3⟩ := ba c2
  obtain ⟨h2, h3⟩ := ba c3
  exact ⟨_, fd, dvs, kws, F, ⟨eqO_ok h1, h2, h3⟩, hb⟩
theorem init_fact {x qual : Str} {st : Stmt} {ps : List Str} {dvs : List V} {kws : List (Str × V)} {fd : FuncData} (c : (Fa.mkr x).ok K = true) (F : FunD K "__init__" qual (defArgs st) (defBody st) (defScope st) dvs kws (ma K (ga K x) "__init__") fd) (hb : Binds K fd ps []) : InitFact K (ga K x) qual st ps := by
  have c2 : (PySem.W.makesIn K (ga K x) && (eqO (PySem.W.findIn K (.ref (ga K x)) "__init__") (some (some (.ref (ma K (ga K x) "__init__")))) && (PySem.W.isFn K (.ref (ma K (ga K x) "__init__")) && PySem.W.keepIn K (.ref (ga K x))))) = true := c
  obtain ⟨h1, c3⟩ := ba c2
  obtain ⟨h2, c4⟩ := ba c3
  obtain ⟨h3, h4⟩ := ba c4
  exact ⟨_, fd, dvs, kws, F, ⟨h1, eqO_ok h2, h3, h4⟩, hb⟩
end
/-! ### the hook with getters -/
structure SaysP (fa : List Fa) (fn : List DefD) (ts : List Tab) (tf : List Defn) (ex : PySem.W.Frag → Bool) (pr : List PrD) (w : World) (h : Heap) (K : PySem.W.Frag) : Prop where
  x : SaysX fa fn ts tf ex w h K
  p : (pr.map fun d => fnP K d.at_) = pr.map PrD.val
theorem SaysP.get {fa : List Fa} {fn : List DefD} {ts : List Tab} {tf : List Defn} {ex : PySem.W.Frag → Bool} {pr : List PrD} {w : World} {h : Heap} {K : PySem.W.Frag} (c : SaysP fa fn ts tf ex pr w h K) (i : Nat) {d : PrD} (e : pr[i]? = some d) : fnP K d.at_ = d.val := by
  have z := congrArg (fun l => l[i]?) c.p
  simp only [List.getElem?_map, e, Option.map_some, Option.some.injEq] at z
  exact z
def obsP (n : Nat) (fa : List Fa) (fn : List DefD) (ts : List Tab) (tf : List Defn) (ex : PySem.W.Frag → Bool) (pr : List PrD) (g : Addr → Option Obj) : AlX × List FnW := (obsX n fa fn ts tf ex g, pr.map fun d => fnP (frT g (asD g n)) d.at_)
def hookP (n : Nat) (fa : List Fa) (fn : List DefD) (ts : List Tab) (tf : List Defn) (ex : PySem.W.Frag → Bool) (pr : List PrD) : PySem.W.Hook where
  α := AlX × List FnW
  obs := fun s => obsP n fa fn ts tf ex pr s.heap.get?
  val := fun w => (valX fn ts w, pr.map PrD.val)
  says := fun w h => ∃ K : PySem.W.Frag, K.In h ∧ SaysP fa fn ts tf ex pr w h K
  of := fun w s e => ⟨_, frT_in, ⟨saysX_of (congrArg (fun z : AlX × List FnW => z.1) e), congrArg (fun z : AlX × List FnW => z.2) e⟩⟩
  keeps := fun _ _ _ ⟨K, hK, c⟩ k => ⟨K, PySem.W.Frag.In.keeps hK k, ⟨⟨c.x.t, c.x.more, c.x.hd, c.x.out, fun p hp => k _ _ (c.x.empty p hp)⟩, c.p⟩⟩
theorem obsP_eq {n : Nat} {fa : List Fa} {fn : List DefD} {ts : List Tab} {tf : List Defn} {ex : PySem.W.Frag → Bool} {pr : List PrD} {g : Addr → Option Obj} {s : Shared} (h : ∀ a, g a = s.heap.get? a) : obsP n fa fn ts tf ex pr g = (hookP n fa fn ts tf ex pr).obs s := by
  have e : g = s.heap.get? := funext h
  rw [e]
  rfl
end L3

set_option Elab.async false
set_option linter.all false
set_option maxRecDepth 100000
set_option maxHeartbeats 2000000
/-! An own exception whose __init__ says super().__init__("..") and stores one field. -/
namespace L3
open PySem PySem.Spec PyProof.Rows L2 Mi
/-- what the written part must say of the class at C, its __init__ at fI, the cell of __class__ at cc -/
structure TmF (prog : Program) (K : PySem.W.Frag) (C fI cda cc : Addr) (qual : Str) (params : Arguments) (body : List Stmt) (scope : Scope) : Prop where
  ox : OexC K C
  lk : ∃ oc od kV doc pm an ct osl, K.lookup fI = some ⟨oc, od, .func (PySem.W.ksFn "__init__" qual params body scope .none kV doc pm an (.ref cda) ct cc), osl⟩
  cd : PySem.W.codeIn K (.ref cda) qual = true
  code : ∃ ccl cdd vs ccs file tf, K.lookup cda = some ⟨ccl, cdd, .fields vs, ccs⟩ ∧ vs[2]? = some (.str file tf) ∧ ((prog.main.file : Str) == file) = true
  cell : ∃ cl cld csl, K.lookup cc = some ⟨cl, cld, .cell (some (.ref C)), csl⟩
  sub : PySem.W.mroIn K C (.ref C) = some true
  top : (prog.main.scope.names.lookup ("super" : Str)).isSome = false
  opq : PySem.W.nsIn K cStatics "thirdparty.any" = some none
  sup : PySem.W.ks_superIn K C C "__init__" = some (some (.builtin "ValueError.__init__"))
  subV : PySem.W.subIn K (.ref C) (.type "ValueError") = some true
  lim : PySem.W.findIn K (.ref C) "limit" = some none
/-- the text of such an __init__ -/
def tmCall (msg : Str) (j : Nat) (p0 p1 p2 p3 p4 : Pos) : Expr := .Call (.Attribute (.Call (.Name "super" p0) [] [] p1) "__init__" p2) [.Constant (.str msg) j p3] [] p4
def tmText (msg : Str) (scope : Scope) (body : List Stmt) : Prop := ∃ (j : Nat) (p0 p1 p2 p3 p4 p5 p6 p7 p8 p9 : Pos), body = [.Expr (tmCall msg j p0 p1 p2 p3 p4) p5, .Assign [.Attribute (.Name "self" p6) "limit" p7] (.Name "limit" p8) p9] ∧
  ∀ env : PySem.Env, env.scope = scope → (∃ pl : Sem Bool, eval (tmCall msg j p0 p1 p2 p3 p4) env = (do
      let ov ← attributeBase (.Call (.Name "super" p0) [] [] p1) "__init__" env (eval (.Call (.Name "super" p0) [] [] p1) env)
      standAt p2.atName
      let (f, first) ← holding [ov] (getMethod ov "__init__" pl)
      callWith p4 f first (backTo p4 (starEach [.Constant (.str msg) j p3] env)) [])) ∧ interactive env = false ∧ swapsWith (tmCall msg j p0 p1 p2 p3 p4) none p5.line env = pure false ∧
      swapsWith (.Name "limit" p8) (some (.Attribute (.Name "self" p6) "limit" p7)) p9.line env = pure false
structure TmS (params : Arguments) (scope : Scope) : Prop where
  kind : scope.kind = .function
  co : scope.isCoroutine = false
  gen : scope.isGenerator = false
  nc : ∀ x ∈ scope.names, x.2 ≠ .cell
  sup : scope.names.lookup ("super" : Str) = some .globalImplicit
  cls : scope.names.lookup ("__class__" : Str) = some .free
  self : scope.names.lookup ("self" : Str) = some .local
  lim : scope.names.lookup ("limit" : Str) = some .local
  hd : ∃ ar, (params.posonlyargs ++ params.args).head? = some ar ∧ ar.arg = "self"
/-- what it does -/
def spTM (C : Addr) : Sp := fun vs H Q _ => ∃ a v, vs = [.ref a, v] ∧ H a = some (exo a C none) ∧ ∀ d, H d = none → d ≠ a → Q .non (upd (upd H d (exd d [("limit", v)])) a (exo a C (some d)))
section
variable {P : Program} {w : World} {K : PySem.W.Frag} {mg : Str → Option Value} {base : Heap} {CX : CXT} {k : Nat} {C fI cda cc : Addr} {qual msg : Str} {params : Arguments} {body : List Stmt} {scope : Scope} {fd : FuncData}
open PySem.W in
theorem tm_ok (T : TmF P K C fI cda cc qual params body scope) (hsup : mg "super" = none) (hB : tmText msg scope body) (S : TmS params scope)
    (hfd : ∃ oc od osl, K.lookup fI = some ⟨oc, od, .func fd, osl⟩) :
    FnOk P w K mg base CX (k + 1) fI fd ["self", "limit"] (spTM C) := by
  refine ⟨fun vs H Q E h => ?_, fun A outer s H args us vs Q E hr e0 hb r hsp => ?_⟩
  · obtain ⟨a, v, rfl, _⟩ := h
    rfl
  obtain ⟨a, v, rfl, ea, hq⟩ := hsp
  obtain ⟨oc, od, kV, doc, pm, an, ct, osl, lk⟩ := T.lk
  obtain ⟨oc', od', osl', lk'⟩ := hfd
  rw [lk] at lk'
  simp only [Option.some.injEq, Obj.mk.injEq, Data.func.injEq] at lk'
  obtain ⟨_, _, e3, _⟩ := lk'
  subst e3
  cases r with
  | cons ra r =>
  rename_i ua us1
  cases r with
  | cons rv r =>
  rename_i u us2
  cases r
  obtain rfl : ua = Value.ref a := ra
  have bk : ∀ b o, base.get? b = some o → s.heap.get? b = some o := fun b o e => (e0.bs b o e).1
  have KX : K.In s.heap := e0.mod.kin.keeps bk
  have lim : s.heap.NoLimit := e0.mod.nolimit.keeps bk
  obtain ⟨t0, hx0⟩ := exo_at e0.hok ea
  refine ks_codeAny_call_defAt (body := body) (binds := [("self", .ref a), ("limit", u)]) hr.depth (KX _ _ lk) rfl lim (codeRec_of KX T.cd) rfl hb S.nc ?_ (fun h₁ hns hk₁ => ?_) S.co S.gen S.kind
  · intro y hy
    simp only [List.mem_cons, List.not_mem_nil, or_false] at hy
    rcases hy with rfl | rfl
    · exact S.self
    · exact S.lim
  have X1 : K.In h₁ := KX.keeps hk₁
  obtain ⟨j, p0, p1, p2, p3, p4, p5, p6, p7, p8, p9, rfl, hB⟩ := hB
  obtain ⟨⟨pl, hev⟩, hi, hs1, hs2⟩ := hB (callEnv (ksFn "__init__" qual params _ scope .none kV doc pm an (.ref cda) ct cc) s.heap.objs.size fI) rfl
  obtain ⟨ccl, cdd, vs, ccs, file, tf, hcode, hvs, hfile⟩ := T.code
  obtain ⟨cl, cld, csl, hcell⟩ := T.cell
  obtain ⟨ar, hp, har⟩ := S.hd
  obtain ⟨nm, q, N, bs, bm, sn, sub, ab, col, dd, k0, k1, k2, k3, k5, hC, hbm⟩ := T.ox.cls
  have hcl : clsIn K C = some { name := nm, bases := bs, mro := .ref C :: bm, ns := N, qualname := q, hasDict := true, slotNames := sn, subclasses := sub, abstract := ab, collection := col, hasDel := false } := by unfold clsIn; rw [hC] <;> rfl
  obtain ⟨mb, hmb, hbo⟩ := e0.mod.blt
  have G1 : ∀ {h2 : Heap}, (∀ b o, s.heap.get? b = some o → h2.get? b = some o) → h2.Ns mainGlobals mg := fun k2 => e0.mod.glob.keeps fun b o e => k2 b o (bk b o e)
  have B1 : ∀ {h2 : Heap}, (∀ b o, s.heap.get? b = some o → h2.get? b = some o) → h2.Ns builtinsNs mb := fun k2 => hmb.keeps fun b o e => k2 b o (bk b o e)
  refine ks_wpAt_execs_cons (ks_wpAt_Expr_any (ks_wpAt_MethodCall (pl := pl) ?_ hev) hi hs1)
  refine ks_wpAt_super_base S.sup S.cls (by decide) rfl (X1 _ _ lk) rfl hp rfl (X1 _ _ hcode) rfl hvs hfile T.top ?_
  refine ks_loadName_global S.kind S.sup (Calls.loadGlobal_builtin (G1 hk₁) hsup (B1 hk₁) ((hbo "super" (by decide)).trans (by first | rfl | kernel_rfl)) ⟨rfl, ?_⟩)
  refine wpAny_loadName_free S.kind S.cls rfl ⟨_, X1 _ _ hcell, rfl⟩ ?_
  rw [har]
  refine wpAny_loadName_local S.kind S.self hns (v := .ref a) rfl ?_
  have hx1 := hk₁ _ _ hx0
  have hC1 := X1 _ _ hC
  refine ks_wpAny_isType_cls hC1 rfl ⟨rfl, ?_⟩
  refine ks_wpAny_call_super hC1 rfl hx1 rfl (fun c e => nomatch e) (looks_mroIn X1 T.sub) (fun h2 hso k2 => ?_)
  have k02 : ∀ b o, s.heap.get? b = some o → h2.get? b = some o := fun b o e => k2 b o (hk₁ b o e)
  have X2 : K.In h2 := KX.keeps k02
  have hx2 := k2 _ _ hx1
  have I2 : InstAt h2 a { cls := .ref C, dict := none, data := .fields #[.ref t0, .none, .none, .none, .bool false, .none] } C none := ⟨hx2, rfl, rfl, trivial⟩
  have sup' : alongIn K "__init__" (((Value.ref C :: bm).dropWhile (· != .ref C)).drop 1) = some (some (.builtin "ValueError.__init__")) := by
    have z := T.sup
    unfold ks_superIn at z
    rw [hcl] at z
    exact z
  refine kxs_getMethod kxs_ValueError (x := a) (C := C) hso (looks_opaque X2 T.opq) (l₀ := .ref C :: bm) (fun A Q E s k q => wpAny_bind ((looks_clsIn X2 hcl) A _ E s k (wpAny_pure q))) rfl X2 sup' (I2.type.andThen (looks_subIn X2 T.subV)) (ks_ne X2 I2 hcl) (by decide) ?_
  have k3 : ∀ b o, h2.get? b = some o → (h2.push (kxs_mw "ValueError.__init__" a)).get? b = some o := fun b o e => Heap.get?_push_of_some _ e
  have hu3 : (h2.push (kxs_mw "ValueError.__init__" a)).get? h2.objs.size = some (kxs_mw "ValueError.__init__" a) := Heap.get?_push_at rfl rfl
  refine kxs_callWith (i := "ValueError.__init__") (x := a) rfl (Calls.evalArgs_plain ?_)
  refine Calls.spliced_cons (Calls.Constant_str (k := j) (pos := p3) ?_)
  refine Calls.spliced_nil ⟨hu3, ?_⟩
  have hx3 := k3 _ _ hx2
  have hC3 := k3 _ _ (X2 _ _ hC)
  refine wpAny_call (codeAny_of_tree ?_)
  show wpAny _ (Around.in1 _) (callAny (.ref _) ⟨_, []⟩) _ _ _
  simp only [callAny]
  refine wpAny_bind (wpAny_load hu3 ?_)
  simp only [kxs_mw, show (Value.type "method-wrapper" == Value.type "method" || Value.type "method-wrapper" == Value.type "builtin_function_or_method" || Value.type "method-wrapper" == Value.type "method-wrapper") = true by decide, if_true]
  refine KFB.if_so (by decide) ?_
  refine wpAny_bind (check_bound_init F.excBase_ValueError.toExcCallFacts hC3 hx3 rfl ?_)
  refine wpAny_bind (wpAny_pure (wpAny_pure ?_))
  refine ⟨plainId_quiet F.excBase_ValueError.init.plain _, codeAny_builtin F.excBase_ValueError.initEntry ?_⟩
  refine exc_init_tree (cls := .ref C) (t0 := t0) (dv := none) (c2 := .none) (c3 := .none) (b4 := .bool false) hx3 (by show 1 ≤ sizeLine; rw [sizeLine_eq]; omega) (fun h4 k4 hx4 _ => ?_)
  have hsz : s.heap.objs.size < h4.objs.size ∧ ∀ {b : Addr} {o : Obj}, b ≠ a → s.heap.get? b = some o → h4.get? b = some o := by
    have up : ∀ (b : Addr) (o : Obj), h₁.get? b = some o → b ≠ a → h4.get? b = some o := fun b o e ne => k4 b o ne (k3 b o (k2 b o e))
    refine ⟨?_, fun {b o} ne e => up b o (hk₁ b o e) ne⟩
    obtain ⟨oL, es, ep, hL, _⟩ := hns
    exact Heap.lt_size (up _ _ hL (fun z => by rw [← z] at hx0; exact absurd (Heap.lt_size hx0) (Nat.lt_irrefl _)))
  obtain ⟨hsz, k04⟩ := hsz
  have na : ∀ {b : Addr}, H b = none → b ≠ a := fun {b} n z => by
    rw [z, ea] at n
    cases n
  have X4 : K.In h4 := e0.mod.kin.keeps fun b o e => k04 (na (e0.bs b o e).2) (bk b o e)
  have hn4 : h4.Ns s.heap.objs.size (fun x => List.lookup x [(("self" : Str), Value.ref a), ("limit", u)].reverse) := by
    obtain ⟨oL, es, ep, hL, r⟩ := hns
    exact ⟨oL, es, ep, k4 _ _ (fun z => by rw [← z] at hx0; exact absurd (Heap.lt_size hx0) (Nat.lt_irrefl _)) (k3 _ _ (k2 _ _ hL)), r⟩
  dsimp only
  refine wpAt_of_wpAny (wpAny_execs_cons (plainObj_wpAny_Assign_Attribute ?_ hs2))
  refine wpAny_Name (wpAny_loadName_local S.kind S.lim hn4 (v := u) rfl ?_) (by decide)
  refine wpAny_Name (wpAny_loadName_local S.kind S.self hn4 (v := .ref a) rfl ?_) (by decide)
  refine set_plain X4 (ox := { cls := .ref C, dict := none, data := .fields #[.ref _, .none, .none, .none, .bool false, .none] }) (od := none) ⟨hx4, rfl, rfl, trivial⟩ T.ox.sa ?_
  refine PySem.HandSPX.exc_osa X4 hx4 hcl (show PySem.HandSPX.refsVE (.ref C :: bm) = true from hbm) rfl T.lim (fun h' tk' dx k dn dne hx hn => ?_)
  have hnd : H dx = none := e0.hok.fresh (Nat.le_trans (Nat.le_of_lt hsz) dn)
  have nd : ∀ {b : Addr} {o : Obj}, s.heap.get? b = some o → b ≠ dx := fun {b o} q => Nat.ne_of_lt (Nat.lt_of_lt_of_le (Heap.lt_size q) (Nat.le_trans (Nat.le_of_lt hsz) dn))
  have kk : ∀ b o, b ≠ a → s.heap.get? b = some o → h'.get? b = some o := fun b o ne e => k b o ne (k04 ne e)
  refine wpAny_execs_nil ?_
  refine ⟨.non, upd (upd H dx (exd dx [("limit", v)])) a (exo a C (some dx)), rfl, e0.bare, ?_, fun b o q => ?_, rfl, hq dx hnd dne⟩
  · exact {
      keep := fun b o q n _ _ => kk b o (na n) q
      slot := fun b o q n _ _ => ⟨o.slots, kk b o (na n) q⟩
      free := fun b o q n _ => by rw [upd_ne (na n), upd_ne (nd q)]; exact n
      there := fun b o q _ => by
        by_cases hb : b = a
        · exact ⟨_, by rw [hb]; exact hx⟩
        · exact ⟨o, kk b o hb q⟩
      tups := fun b xs q => by rw [upd_ne (at_ne ea q exo_tup), upd_ne (ne_of_none q hnd)]; exact q
      frzs := fun b o v q => by rw [upd_ne (at_ne ea q exo_frz), upd_ne (ne_of_none q hnd)]; exact q
      tbls := fun b ps q => ⟨#[], by rw [upd_ne (at_ne ea q exo_tbl), upd_ne (ne_of_none q hnd), q]; simp⟩ }
  · by_cases hb : b = a
    · subst hb
      rw [upd_same] at q
      cases q
      exact exo_ok hx
    · rw [upd_ne hb] at q
      by_cases hd : b = dx
      · subst hd
        rw [upd_same] at q
        cases q
        exact exd_ok hn (relO_put (fs := []) rv fun g => True.intro)
      · rw [upd_ne hd] at q
        exact (e0.hok b o q).stay (fun c v hc z => kk c v (by
            rcases hc with hc | hc
            · rw [hc]
              exact hb
            · exact at_ne ea hc exo_own) z)
          (fun c hc => by rw [upd_ne (at_ne ea hc exo_own), upd_ne (ne_of_none hc hnd)]; exact hc) (fun c xs hc => by rw [upd_ne (at_ne ea hc exo_tup), upd_ne (ne_of_none hc hnd)]; exact hc)
end
end L3

set_option Elab.async false
set_option linter.all false
set_option maxRecDepth 100000
set_option maxHeartbeats 2000000
/-! Exceptions as values: made, kept in lists, asked for their classes, their text, their field. -/
namespace Mi
open PySem
def asEs : List W → Option (List (Str × Xy))
  | [] => some []
  | .e c y :: r => (asEs r).map ((c, y) :: ·)
  | _ :: _ => none
def eExc (c m : Str) : EF := fun _ μ => .ok (.e c (.msg m)) μ
def eNewX (c : Str) (f : EF) : EF := fun ρ μ => (f ρ μ).bind fun w μ1 => match w with
  | .d d => .ok (.e c (.lim d)) μ1
  | _ => .no
def eLstE (a : AF) : EF := fun ρ μ => (a ρ μ).bind fun ws μ1 => match asEs ws with
  | some l => .ok (.es l) μ1
  | none => .no
def eCatE (f g : EF) : EF := fun ρ μ => (f ρ μ).bind fun a μ1 => (g ρ μ1).bind fun b μ2 => match a, b with
  | .es x, .es y => if x.length + y.length ≤ LIM then .ok (.es (x ++ y)) μ2 else .no
  | _, _ => .no
def eLenE (f : EF) : EF := fun ρ μ => (f ρ μ).bind fun a μ1 => match a with
  | .es x => .ok (.d (.int x.length)) μ1
  | _ => .no
def eIxE (f g : EF) : EF := fun ρ μ => (f ρ μ).bind fun a μ1 => (g ρ μ1).bind fun b μ2 => match a, b with
  | .es x, .d (.int i) => (match (ixI x.length i).bind fun k => x[k]? with
    | some (c, y) => .ok (.e c y) μ2
    | none => .no)
  | _, _ => .no
/-- isinstance; t: what it answers by the name of the class -/
def eIsV (t : Str → Option Bool) (f : EF) : EF := fun ρ μ => (f ρ μ).bind fun a μ1 => match a with
  | .e c _ => ofO ((t c).map fun b => W.d (.bool b)) μ1
  | _ => .no
def eLim (x : Str) (f : EF) : EF := fun ρ μ => (f ρ μ).bind fun a μ1 => match a with
  | .e c (.lim d) => if c = x then .ok (.d d) μ1 else .no
  | _ => .no
/-- str(e) -/
def eStrX (f : EF) : EF := fun ρ μ => (f ρ μ).bind fun a μ1 => match a with
  | .e c (.msg m) => if ownCls.contains c = true then .ok (.d (.str m)) μ1 else .no
  | _ => .no
/-- [g for x in f], f a list of exceptions -/
def eLcE (vs : List Nat) (i : Nat) (f g : EF) : EF := fun ρ μ => (f ρ μ).bind fun a μ1 => match a with
  | .es x => if x.length ≤ LIM then lcW i g (wipeE ρ vs) (x.map fun p => W.e p.1 p.2) [] μ1 else .no
  | _ => .no
def isTab (j : Nat) (c : Str) : Option Bool := if c = "WalkError" then some (j == 16) else (ownCls.idxOf? c).map fun i => bOf i j
def isTabW (c : Str) : Option Bool := if c = "WalkError" ∨ ownCls.contains c = true then some true else none
end Mi
namespace L2
open PySem PySem.Spec PyProof.Rows
section
variable {X : Cx} {pins : List (Addr × Obj)} {σ : St} {H : Hp} {s : Shared}
theorem exM_ok {P : Program} {w : World} {H : Hp} {h : Heap} {a t : Addr} {cls : Value} {oe : Obj} {vs : Array Value} (e : h.get? a = some oe) (z : Zc cls none oe) (d : oe.data = .fields vs) (h0 : vs[0]? = some (.ref t)) : ObjOk P w H h a (L3.ExM cls a t) :=
  ⟨⟨oe, vs, e, z, d, h0⟩, ⟨oe, e⟩, fun _ _ ⟨o, v, q, r⟩ k => ⟨o, v, k o q, r⟩⟩
/-- X(m), an own exception class without own __init__, as a value, its message kept -/
theorem pe_exc1v {C : Addr} {bmB : List Value} {B newId initId : String} {x m : Str} {j : Nat} {p p2 pos : Pos} (F : ExcBaseFacts B newId initId bmB) (q : PySem.W.excIn X.K C bmB newId = true) (gC : X.mg x = some (.ref C)) (kC : PySem.W.keepIn X.K (.ref C) = true) (hg : Gl X x) (hdb : (x == ("__debug__" : Str)) = false := by decide) :
    PE X (.Call (.Name x p) [.Constant (.str m) j p2] [] pos) (fun σ H Q => ∀ a t, H a = none → H t = none → t ≠ a → Q (.ref a) (upd (upd H t (.tup [.str m])) a (L3.ExM (.ref C) a t))) := by
  refine ⟨fun pins s σ H Q I h => ?_⟩
  refine wpAny_Call_Name_kw (ld_glob I hg gC ?_ hdb)
  refine PySem.W.callWith_K (h₀ := X.base) I.ok.mod.kin kC ?_ rfl (by rfl)
  show wpAny _ _ (spliced ((false, eval (.Constant (.str m) j p2) X.env) :: backTo pos (starEach [] X.env))) _ _ s
  refine Calls.spliced_cons (Calls.Constant_str ?_)
  have I1 := I.tok (s.toks + 1)
  refine Calls.spliced_nil ⟨I1.kIn, ?_⟩
  show wpAny _ _ (call (.ref C) [_]) _ _ _
  obtain ⟨bm, N, nm, qn, bs, hdct, sn, sub, ab, col, dd, k0, k1, k2, k3, k5, mN, hC, hN, hni, T⟩ := exc_obj I1.kIn q
  refine wpAny_call_exc_subT F T hC hN hni (fun h' a hm => ?_) (by show 1 ≤ sizeLine; rw [sizeLine_eq]; omega)
  have hn : H a = none := I.hok.gone hm.new
  obtain ⟨t, ha, hnt, ht⟩ := hm.there
  have hn2 : H t = none := I.hok.gone hnt
  have ne : t ≠ a := fun e => by
    rw [e, ha] at ht
    cases ht
  obtain ⟨G, g1, g2⟩ := restrict h' fun b => decide (b ≠ a)
  have gk : ∀ b, b ≠ a → G.get? b = h'.get? b := fun b hb => g1 b (decide_eq_true hb)
  have ga : G.get? a = none := g2 a (by simp)
  have na : ∀ {b : Addr} {o : Obj}, s.heap.get? b = some o → b ≠ a := fun {b o} e z => by rw [z, hm.new] at e; cases e
  have okt : ∀ {H2 : Hp} {h2 : Heap}, h2.get? t = some { cls := .type "tuple", data := .seq #[Value.str m s.toks] } → ObjOk X.prog X.w H2 h2 t (.tup [.str m]) := fun {H2 h2} e =>
    ⟨by show 1 ≤ sizeLine; rw [sizeLine_eq]; omega, [Value.str m s.toks], .cons ⟨_, rfl⟩ .nil, _, e, rfl, _, rfl⟩
  have I2 : Inv X pins σ (upd H t (.tup [.str m])) { s with heap := G, toks := s.toks + 1 } :=
    I1.laidN (fun b o e => by rw [gk b (na e)]; exact hm.keeps b o e) hnt hn2 (okt (by rw [gk t ne]; exact ht))
  have I3 : Inv X pins σ (upd (upd H t (.tup [.str m])) a (L3.ExM (.ref C) a t)) { s with heap := h', toks := s.toks + 1 } :=
    I2.laidN (t' := s.toks + 1) (h' := h') (fun b o e => by
      have hb : b ≠ a := fun z => by
        have e' : G.get? b = some o := e
        rw [z, ga] at e'
        cases e'
      have e' : G.get? b = some o := e
      rw [gk b hb] at e'
      exact e') ga (by rw [upd_ne ne.symm]; exact hn) (exM_ok ha ⟨rfl, rfl⟩ rfl rfl)
  exact ⟨.ref a, _, I3, rfl, h a t hn hn2 ne⟩
/-- C(e, ..), an own exception class whose own __init__ keeps sp, as a value -/
theorem pe_oexV {CX : CXT} {x : Str} {C fI : Addr} {k : Nat} {fd : FuncData} {ps : List Str} {sp : Sp} {ds : List Value} {dvs : List V} {e : Expr} {es : List Expr} {ta : TA} {p pos : Pos} (T : OexC X.K C) (iC : PySem.W.findIn X.K (.ref C) "__init__" = some (some (.ref fI))) (tI : PySem.W.typeIn X.K (.ref fI) = some (.type "function"))
    (F1 : FnOk X.prog X.w X.K X.mg X.base CX k fI fd ps sp) (hr : Room (k + 1) X.A) (hb : Binds X.K fd ps ds) (hd : Vals dvs ds) (hx : Passes CX X (fun _ _ _ => False)) (hg : Gl X x) (hm : X.mg x = some (.ref C)) (ha : PA X (e :: es) ta)
    (hdb : (x == ("__debug__" : Str)) = false := by decide) (he : starEach (e :: es) X.env = (false, eval e X.env) :: starEach es X.env := by rfl) (hpl : (backTo pos (starEach es X.env)).any (·.1) = false := by rfl) :
    PE X (.Call (.Name x p) (e :: es) [] pos) (fun σ H Q => ta σ H fun vs H1 => vs.length ≤ 1000 ∧ ∀ a, H1 a = none → sp (.ref a :: (vs ++ dvs)) (upd H1 a (exo a C none)) (fun v H2 => v = .non ∧ Q (.ref a) H2) (fun _ _ _ => False)) := by
  refine ⟨fun pins s σ H Q I h => ?_⟩
  obtain ⟨nm, q, N, bs, bm, sn, sub, ab, col, dd, k0, k1, k2, k3, k5, hC, hbm⟩ := T.cls
  refine wpAny_Call_Name_kw (ld_glob I hg hm ?_ hdb)
  refine PySem.W.callWith_K (h₀ := X.base) I.ok.mod.kin T.kC (thn (ha.run pos pins s σ H _ I h) fun us s1 ⟨vs, H1, I1, r1, hz, q1⟩ => ⟨I1.kIn, ?_⟩) he hpl
  show wpAny _ _ (call (.ref C) us) _ _ _
  obtain ⟨hp, g, dr, tk, os⟩ := s1
  have hsz : hp.objs.size ≤ hp.objs.size + 1 := Nat.le_succ _
  have hn : H1 (hp.objs.size + 1) = none := I1.hok.fresh hsz
  have hq := q1 (hp.objs.size + 1) hn
  have kk : ∀ b o, hp.get? b = some o → ((hp.push (PySem.W.kdv_tup us)).push (PySem.HandSPX.excO C hp.objs.size)).get? b = some o := fun b o e => Heap.get?_push_of_some _ (Heap.get?_push_of_some _ e)
  have hget : ((hp.push (PySem.W.kdv_tup us)).push (PySem.HandSPX.excO C hp.objs.size)).get? (hp.objs.size + 1) = some (PySem.HandSPX.excO C hp.objs.size) := by heap_get
  have I2 : Inv X pins σ (upd H1 (hp.objs.size + 1) (exo (hp.objs.size + 1) C none)) ⟨(hp.push (PySem.W.kdv_tup us)).push (PySem.HandSPX.excO C hp.objs.size), g, dr, tk, os⟩ :=
    I1.laid (t' := tk) (a := hp.objs.size + 1) (o := exo (hp.objs.size + 1) C none) (h' := (hp.push (PySem.W.kdv_tup us)).push (PySem.HandSPX.excO C hp.objs.size)) kk hsz (exo_ok hget)
  have r2 : Vals (V.ref (hp.objs.size + 1) :: (vs ++ dvs)) (Value.ref (hp.objs.size + 1) :: (us ++ ds)) := .cons rfl (r1.append hd)
  have hl : (Value.ref (hp.objs.size + 1) :: us ++ ds).length = ps.length := by
    have e := r2.length
    rw [F1.len _ _ _ _ hq] at e
    exact e.symm
  have hus : us.length ≤ sizeLine := by
    rw [← Paired.length r1, sizeLine_eq]
    omega
  refine wpAny_call (PySem.HandSPX.call_own F.excBase_ValueError (fun Y => PySem.HandSPX.refsVE_contains Y bm hbm) (I1.kIn _ _ hC) (PySem.W.looks_findIn I1.kIn iC) (fun self => PySem.W.bind_fn I1.kIn self tI) hus
    (codeAny_mono (F1.run _ X.stack _ _ ⟨Value.ref (hp.objs.size + 1) :: us, []⟩ (Value.ref (hp.objs.size + 1) :: (us ++ ds)) _ _ (fun _ _ _ => False) (hr.make C us []) (I2.env0.make C us []) (hb _ (Value.ref (hp.objs.size + 1) :: us) I2.kIn hl) r2 hq) fun r s' hq' => ?_))
  cases r with
  | error er => exact hx pins σ _ _ er s' I2 hq'
  | ok fl =>
    cases fl with
    | ret u =>
      obtain ⟨v, H2, os2, bare2, un2, hok2, rv, ev, q2⟩ := hq'
      subst ev
      exact ⟨rv, .ref (hp.objs.size + 1), H2, I2.call' (ch := []) os2 un2 hok2 bare2 (fun b z => absurd z (by simp)), rfl, q2⟩
    | next => exact False.elim hq'
    | brk => exact False.elim hq'
    | cont => exact False.elim hq'
/-- an exception object that nobody raised, at a, of the class at D -/
def IsX (H : Hp) (a D : Addr) : Prop := (∃ t, H a = some (L3.ExM (.ref D) a t)) ∨ ∃ dx fs, H a = some (exo a D (some dx)) ∧ H dx = some (exd dx fs)
theorem isX_at {P : Program} {w : World} {H : Hp} {h : Heap} {a D : Addr} (hok : HOk P w H h) (x : IsX H a D) : ∃ ox od, PySem.W.InstAt h a ox D od := by
  rcases x with ⟨t, e⟩ | ⟨dx, fs, e, e2⟩
  · have z : ObjOk P w H h a (L3.ExM (.ref D) a t) := hok a _ e
    obtain ⟨⟨oe, vs, h1, h2, h3, h4⟩, _⟩ := z
    obtain ⟨oc, od, oda, osl⟩ := oe
    obtain ⟨h5, h6⟩ := h2
    dsimp only at h3 h5 h6
    subst h3 h5 h6
    exact ⟨_, none, h1, rfl, rfl, trivial⟩
  · obtain ⟨t1, h1⟩ := exo_at hok e
    obtain ⟨mA, ⟨o, es, ep, h2, _⟩, _⟩ := exd_at hok e2
    exact ⟨_, some o, h1, rfl, rfl, h2⟩
/-- isinstance(e, c), e such an exception -/
def rIsV (K : PySem.W.Frag) : List V → Hp → VK → Prop := fun xs H Q => ∃ (a D : Addr) (c : V) (cv : Value) (b : Bool), xs = [.ref a, c] ∧ IsX H a D ∧ ExcC K D ∧ (∀ u, RelV c u → u = cv) ∧ PySem.W.kitOne K (.ref D) cv = some b ∧ Q (.bl b) H
theorem call_isV : CallR X (.builtin "isinstance") (rIsV X.K) := by
  intro pins s σ H xs us Q I r h
  obtain ⟨a, D, c, cv, b, rfl, hx, C, hcv, e, q⟩ := h
  cases r with
  | cons rx rr =>
    cases rr with
    | cons rt rr =>
      cases rr
      cases rx
      have ec := hcv _ rt
      subst ec
      obtain ⟨ox, od, J⟩ := isX_at I.hok hx
      have hcl : (PySem.W.clsIn X.K D).isSome = true := by
        obtain ⟨cd, hc, _⟩ := PySem.W.any_some C.hd
        rw [hc]
        rfl
      exact PySem.W.kia_one (PySem.W.kitx_exc hcl C.hg C.hk C.hs C.ha C.hn C.ht C.hm) I.kIn J e (fun z => nomatch z) fun tk => ⟨.bl b, H, I.kept (t' := tk) fun _ _ z => z, rfl, q⟩
/-- e.f of such an exception -/
theorem pe_limV {e : Expr} {te : TE} {pos : Pos} {n : Str} (he : PE X e te) (hb : attributeBase e n X.env (eval e X.env) = eval e X.env := by rfl) :
    PE X (.Attribute e n pos) (fun σ H Q => te σ H fun x H1 => ∃ a C dx fs v, x = .ref a ∧ XfC X.K C ∧ PySem.W.findIn X.K (.ref C) n = some none ∧ H1 a = some (exo a C (some dx)) ∧ H1 dx = some (exd dx fs) ∧ fs.lookup n = some v ∧ Q v H1) := by
  refine ⟨fun pins s σ H Q I h => ?_⟩
  refine attr_of hb (thn (he.run pins s σ H _ I h) fun u s1 hh => ?_)
  obtain ⟨x, H1, I1, rx, a, C, dx, fs, v, ex, T, hno, ea, ed, l, q⟩ := hh
  subst ex
  obtain rfl : u = Value.ref a := rx
  obtain ⟨t1, ho⟩ := exo_at I1.hok ea
  obtain ⟨mA, hns, hr⟩ := exd_at I1.hok ed
  obtain ⟨od, hod, hl⟩ := lookIn_ns hns
  obtain ⟨u, hu, ru⟩ := RelO.some_of (v := v) (o := mA n) (by rw [← l]; exact hr n)
  have J : PySem.W.InstAt s1.heap a { cls := .ref C, dict := some dx, data := .fields #[.ref t1, .none, .none, .none, .bool false, .none] } C (some od) := ⟨ho, rfl, rfl, hod⟩
  exact HandSPX.exc_get I1.kIn J T.ga T.gg T.exC (PySem.W.findObj_own T.hdC hno rfl (by rw [hl, hu])) (handed_of ru) ⟨v, H1, I1.tok _, ru, q⟩
/-- str(e) of an exception that was made of one text -/
theorem call_strV (hu : X.A.units + 2 < cLine) : CallR X (.type "str") (fun xs H Q => ∃ a D t m, xs = [.ref a] ∧ H a = some (L3.ExM (.ref D) a t) ∧ H t = some (.tup [.str m]) ∧ PySem.W.findIn X.K (.ref D) "__str__" = some (some (.builtin "BaseException.__str__")) ∧ PySem.W.subIn X.K (.ref D) (.type "BaseException") = some true ∧ Q (.str m) H) := by
  intro pins s σ H xs us Q I r h
  obtain ⟨a, D, t, m, rfl, ea, et, hs, hB, q⟩ := h
  obtain ⟨u, rfl, rx⟩ := vals1 r
  cases rx
  have z : ObjOk X.prog X.w H s.heap a (L3.ExM (.ref D) a t) := I.hok a _ ea
  obtain ⟨⟨oe, vs, h1, ⟨h2, h2'⟩, h3, h4⟩, _⟩ := z
  have z2 : ObjOk X.prog X.w H s.heap t (.tup [.str m]) := I.hok t _ et
  obtain ⟨_, its, rv, ob, e1, e2, n, e3⟩ := z2
  obtain ⟨u, rfl, tk, rfl⟩ := vals1 rv
  exact PySem.P.str_of_C_one hu ⟨I.kIn, oe, vs, h1, h2, h3, h4⟩ ⟨ob, n, e1, e2, e3⟩ hs hB ⟨.str m, H, I, ⟨_, rfl⟩, q⟩
end
end L2
namespace L3
open PySem PySem.Spec PyProof.Rows L2 Mi
section
variable {C : Cv} {H : Hp} {α : Al} {μ : Sto}
theorem RpWs.es : ∀ {vs : List V} {ws : List W} {l : List (Str × Xy)}, RpWs C H α μ vs ws → asEs ws = some l → RpEs C H (Own α μ) vs l
  | _, _, _, .nil, e => by cases e; exact .nil
  | _, .e c y :: ws, _, .cons r t, e => by
    have e : (asEs ws).map ((c, y) :: ·) = some _ := e
    cases e1 : asEs ws with
    | none => rw [e1] at e; cases e
    | some l =>
      rw [e1] at e
      cases e
      exact .cons r (RpWs.es t e1)
  | _, .d _ :: ws, _, .cons r t, e => by cases e
  | _, .m _ :: ws, _, .cons r t, e => by cases e
  | _, .f _ :: ws, _, .cons r t, e => by cases e
  | _, .x _ :: ws, _, .cons r t, e => by cases e
  | _, .es _ :: ws, _, .cons r t, e => by cases e
theorem RpEs.length : ∀ {vs : List V} {l : List (Str × Xy)} {M : Addr → Prop}, RpEs C H M vs l → vs.length = l.length
  | _, _, _, .nil => rfl
  | _, _, _, .cons _ t => congrArg (· + 1) (RpEs.length t)
theorem RpEs.append {M : Addr → Prop} : ∀ {vs us : List V} {l r : List (Str × Xy)}, RpEs C H M vs l → RpEs C H M us r → RpEs C H M (vs ++ us) (l ++ r)
  | _, _, _, _, .nil, s => s
  | _, _, _, _, .cons r t, s => .cons r (RpEs.append t s)
theorem RpEs.get {M : Addr → Prop} : ∀ {vs : List V} {l : List (Str × Xy)} {i : Nat} {c : Str} {y : Xy}, RpEs C H M vs l → l[i]? = some (c, y) → ∃ v, vs[i]? = some v ∧ RpE C H M v c y
  | _, _, _, _, _, .nil, e => by simp at e
  | _, _, 0, _, _, .cons r _, e => by simp at e; obtain ⟨rfl, rfl⟩ := e; exact ⟨_, rfl, r⟩
  | _, _, i + 1, c, y, .cons _ t, e => by
    obtain ⟨v, h1, h2⟩ := RpEs.get (i := i) (c := c) (y := y) t (by simpa using e)
    exact ⟨v, by simpa using h1, h2⟩
theorem rpE_isX {M : Addr → Prop} {v : V} {c : Str} {y : Xy} (h : RpE C H M v c y) : ∃ a D, v = .ref a ∧ C.mg c = some (.ref D) ∧ IsX H a D := by
  cases y with
  | msg m => obtain ⟨a, A, t, h1, h2, h3, h4, h5⟩ := h; exact ⟨a, A, h1, h2, .inl ⟨t, h3⟩⟩
  | lim d => obtain ⟨a, A, dx, u, h1, h2, h3, h4, h5, h6, h7⟩ := h; exact ⟨a, A, h1, h2, .inr ⟨dx, _, h3, h5⟩⟩
end
section
variable {X : Cx} {T : List (Addr × Str)} {E : XK} {j : Nat} {pos : Pos} {a b ce : Expr} {es : List Expr} {f g : EF} {r : AF}
theorem de_exc1 {x m : Str} {j' : Nat} {p p2 : Pos} (hx : OwnEx X.K X.mg x) (hg : Gl X x := by rfl) (hdb : (x == ("__debug__" : Str)) = false := by decide) :
    DE X T E (.Call (.Name x p) [.Constant (.str m) j' p2] [] pos) (eExc x m) := by
  obtain ⟨A, gC, kC, xC, bC, tC⟩ := hx.ex
  refine pe_imp (pe_exc1v PySem.F.excBase_ValueError xC gC kC hg hdb) fun σ H Q ⟨ρ, α, μ, S, sl, q⟩ a t ha ht ne => ?_
  have sm : Same H (upd (upd H t (.tup [.str m])) a (ExM (.ref A) a t)) := fun b o h => by
    rw [upd_ne (ne_of_none h ha), upd_ne (ne_of_none h ht)]
    exact h
  refine q (.ref a) _ α (Same.step S sm) (S.same sm) ⟨a, A, t, rfl, gC, upd_same, S.own_ne ha, ?_⟩
  rw [upd_ne ne, upd_same]
/-- what the text's class with an own __init__ must have -/
structure TmT (P : Program) (w : World) (K : PySem.W.Frag) (mg : Str → Option Value) (base : Heap) (x : Str) : Prop where
  ex : ∃ C fI fd, mg x = some (.ref C) ∧ OexC K C ∧ PySem.W.findIn K (.ref C) "__init__" = some (some (.ref fI)) ∧ PySem.W.typeIn K (.ref fI) = some (.type "function") ∧ Binds K fd ["self", "limit"] [] ∧
    FnOk P w K mg base (L2N.CX P w) 1 fI fd ["self", "limit"] (spTM C) ∧ XfC K C ∧ PySem.W.findIn K (.ref C) "limit" = some none
theorem de_newX {x : Str} {p : Pos} (ck : CK X E j) (tm : TmT X.prog X.w X.K X.mg X.base x) (ha : DE X T E a f) (hj : 2 ≤ j := by decide) (hg : Gl X x := by rfl) (hdb : (x == ("__debug__" : Str)) = false := by decide)
    (he : starEach [a] X.env = (false, eval a X.env) :: starEach [] X.env := by rfl) : DE X T E (.Call (.Name x p) [a] [] pos) (eNewX x f) := by
  obtain ⟨C, fI, fd, gC, ox, iC, tI, hb, Fn, xf, hlim⟩ := tm.ex
  refine pe_imp (pe_oexV (dvs := []) ox iC tI Fn (ck.room.mono hj) hb .nil pass_e0 hg gC (pa_cons ha pa_nil he) hdb he (by rfl)) fun σ H Q ⟨ρ, α, μ, S, sl, q⟩ => tD_bind S sl q fun v w H1 α1 μ1 st1 S1 sl1 r1 q1 => ?_
  cases w with
  | d d =>
    refine ⟨by show 1 ≤ 1000; omega, fun a ha => ⟨a, v, rfl, upd_same, fun dx hd ne => ⟨rfl, ?_⟩⟩⟩
    have hd1 : H1 dx = none := by rw [upd_ne ne] at hd; exact hd
    have sm : Same H1 (upd (upd (upd H1 a (exo a C none)) dx (exd dx [("limit", v)])) a (exo a C (some dx))) := fun b o h => by
      rw [upd_ne (ne_of_none h ha), upd_ne (ne_of_none h hd1), upd_ne (ne_of_none h ha)]
      exact h
    refine q1 (.ref a) _ α1 (Same.step S1 sm) (S1.same sm) ⟨a, C, dx, v, rfl, gC, upd_same, S1.own_ne ha, ?_, S1.own_ne hd1, Rp.ext (Same.ext sm _) r1⟩
    rw [upd_ne ne, upd_same]
  | _ => exact (show False from q1).elim
theorem de_lstE (hr : DA X T E es r) (hl : es.length ≤ 1000 := by decide) : DE X T E (.List es pos) (eLstE r) :=
  pe_imp (pe_lst hr.pa) fun σ H Q ⟨ρ, α, μ, S, sl, q⟩ => hr.read (C := CvX X T) S sl q fun vs ws H1 α1 μ1 st S1 sl1 rs ln q1 => by
    refine ⟨by rw [rs.length, ln]; exact Nat.le_trans hl (by decide), fun p np => ?_⟩
    split at q1
    · rename_i l e1
      have sm := same_upd (o := .lst vs) np
      exact q1 _ _ _ (Same.step S1 sm) (S1.same sm) ⟨p, vs, rfl, .inl upd_same, S1.own_ne np, (rs.es e1).ext (Same.ext sm _)⟩
    · exact (show False from q1).elim
theorem de_catE (ha : DE X T E a f) (hb : DE X T E b g) : DE X T E (.BinOp a .Add b pos) (eCatE f g) :=
  pe_imp (pe_op op_catR ha hb) fun σ H Q ⟨ρ, α, μ, S, sl, q⟩ => tD_bind S sl q fun v w H1 α1 μ1 st1 S1 sl1 r1 q1 => tD_bind S1 sl1 q1 fun u w2 H2 α2 μ2 st2 S2 sl2 r2 q2 => by
    have r1 := r1.step st2
    split at q2
    · split at q2
      · rename_i hl
        obtain ⟨p1, xs, rfl, h1, n1, s1⟩ := r1
        obtain ⟨p2, ys, rfl, h2, n2, s2⟩ := r2
        refine ⟨p1, p2, xs, ys, rfl, rfl, h1, h2, by rw [s1.length, s2.length]; exact lim_line hl, fun p np => ?_⟩
        have sm := same_upd (o := .lst (xs ++ ys)) np
        exact q2 _ _ _ (Same.step S2 sm) (S2.same sm) ⟨p, _, rfl, .inl upd_same, S2.own_ne np, (s1.append s2).ext (Same.ext sm _)⟩
      · exact (show False from q2).elim
    · exact (show False from q2).elim
theorem de_lenE {p : Pos} (hm : X.mg "len" = none) (ha : DE X T E a f) (hg : Gl X "len" := by rfl) (he : starEach [a] X.env = (false, eval a X.env) :: starEach [] X.env := by rfl) : DE X T E (.Call (.Name "len" p) [a] [] pos) (eLenE f) :=
  pe_imp (pe_callB call_len hg hm PySem.boot_len (pa_cons ha pa_nil he) (he := he)) fun σ H Q ⟨ρ, α, μ, S, sl, q⟩ => tD_bind S sl q fun v w H1 α1 μ1 st1 S1 sl1 r1 q1 => by
    cases w with
    | es l =>
      obtain ⟨p1, xs, rfl, h1, n1, s1⟩ := r1
      refine ⟨_, xs.length, rfl, .inl ⟨xs, .inl h1, rfl⟩, ?_⟩
      have q1 : PQ (CvX X T) E Q H1 α1 μ1 (.ok (.d (.int l.length)) μ1) := q1
      rw [s1.length]
      exact PQ.ok (w := .d (.int l.length)) S1 (.int _) q1
    | _ => exact (show False from q1).elim
theorem de_ixE (ha : DE X T E a f) (hb : DE X T E b g) (hs : PlainIx b := by exact fun _ _ => rfl) : DE X T E (.Subscript a b pos) (eIxE f g) :=
  pe_imp (pe_ix ix_list ha hb hs) fun σ H Q ⟨ρ, α, μ, S, sl, q⟩ => tD_bind S sl q fun v w H1 α1 μ1 st1 S1 sl1 r1 q1 => tD_bind S1 sl1 q1 fun u w2 H2 α2 μ2 st2 S2 sl2 r2 q2 => by
    have r1 := r1.step st2
    cases w with
    | es l =>
      cases w2 with
      | d d =>
        cases d with
        | int i =>
          have q2 : PQ (CvX X T) E Q H2 α2 μ2 (match (ixI l.length i).bind fun k => l[k]? with
            | some (c, y) => .ok (.e c y) μ2
            | none => .no) := q2
          obtain ⟨p1, xs, rfl, h1, n1, s1⟩ := r1
          obtain rfl : u = .int i := by cases r2; rfl
          split at q2
          · rename_i c y e1
            cases e2 : ixI l.length i with
            | none => rw [e2] at e1; cases e1
            | some k =>
              rw [e2] at e1
              obtain ⟨v, h2, h3⟩ := s1.get (show l[k]? = some (c, y) from e1)
              refine ⟨p1, xs, i, v, rfl, rfl, .inl h1, ?_, PQ.ok (w := .e c y) S2 h3 q2⟩
              show (ixN xs.length i).bind (fun j => xs[j]?) = some v
              have key : ixI l.length i = ixN l.length i := rfl
              rw [s1.length, ← key, e2]
              exact h2
          · exact (show False from q2).elim
        | _ => exact (show False from q2).elim
      | _ => exact (show False from q2).elim
    | _ => exact (show False from q2).elim
theorem de_isV {p : Pos} {t : Str → Option Bool} {c : V} {cv : Value} (hm : X.mg "isinstance" = none) (ha : DE X T E a f) (hc : PE X ce (tC c)) (hcv : ∀ u, RelV c u → u = cv) (ht : ∀ x b, t x = some b → ∃ D, X.mg x = some (.ref D) ∧ ExcC X.K D ∧ PySem.W.kitOne X.K (.ref D) cv = some b)
    (hg : Gl X "isinstance" := by rfl) (he : starEach [a, ce] X.env = (false, eval a X.env) :: starEach [ce] X.env := by rfl) (he2 : starEach [ce] X.env = (false, eval ce X.env) :: starEach [] X.env := by rfl) (hpl : (backTo pos (starEach [ce] X.env)).any (·.1) = false := by rfl) :
    DE X T E (.Call (.Name "isinstance" p) [a, ce] [] pos) (eIsV t f) :=
  pe_imp (pe_callB call_isV hg hm PyProof.Rows.boot_isinstance (pa_cons ha (pa_cons hc pa_nil he2) he) (he := he) (hpl := hpl)) fun σ H Q ⟨ρ, α, μ, S, sl, q⟩ => tD_bind S sl q fun v w H1 α1 μ1 st1 S1 sl1 r1 q1 => by
    cases w with
    | e x y =>
      obtain ⟨z, e2, q2⟩ := PQ.ofO q1
      cases e3 : t x with
      | none => rw [e3] at e2; cases e2
      | some k =>
        rw [e3] at e2
        cases e2
        obtain ⟨D, g1, g2, g3⟩ := ht x k e3
        obtain ⟨a, D', rfl, g4, g5⟩ := rpE_isX r1
        have g4 : X.mg x = some (.ref D') := g4
        rw [g1] at g4
        cases g4
        exact ⟨a, D, c, cv, k, rfl, g5, g2, hcv, g3, PQ.bl S1 q2⟩
    | _ => exact (show False from q1).elim
theorem de_lim {x : Str} (ht : ∀ D, X.mg x = some (.ref D) → XfC X.K D ∧ PySem.W.findIn X.K (.ref D) "limit" = some none) (ha : DE X T E a f) (hb : attributeBase a "limit" X.env (eval a X.env) = eval a X.env := by rfl) : DE X T E (.Attribute a "limit" pos) (eLim x f) :=
  pe_imp (pe_limV ha hb) fun σ H Q ⟨ρ, α, μ, S, sl, q⟩ => tD_bind S sl q fun v w H1 α1 μ1 st1 S1 sl1 r1 q1 => by
    cases w with
    | e c y =>
      cases y with
      | msg m => exact (show False from q1).elim
      | lim d =>
        dsimp only at q1
        split at q1
        · rename_i ec
          subst ec
          obtain ⟨p, D, dx, u, rfl, g1, h1, n1, h2, n2, r2⟩ := r1
          obtain ⟨xf, hno⟩ := ht D g1
          exact ⟨p, D, dx, _, u, rfl, xf, hno, h1, h2, rfl, PQ.ok (w := .d d) S1 r2 q1⟩
        · exact (show False from q1).elim
    | _ => exact (show False from q1).elim
theorem de_strX {p : Pos} (ck : CK X E j) (hm : X.mg "str" = none) (ha : DE X T E a f) (ht : ∀ c D, X.mg c = some (.ref D) → c ∈ ownCls → PySem.W.findIn X.K (.ref D) "__str__" = some (some (.builtin "BaseException.__str__")) ∧ PySem.W.subIn X.K (.ref D) (.type "BaseException") = some true)
    (hg : Gl X "str" := by rfl) (he : starEach [a] X.env = (false, eval a X.env) :: starEach [] X.env := by rfl) : DE X T E (.Call (.Name "str" p) [a] [] pos) (eStrX f) :=
  pe_imp (pe_callTy (call_strV (by have := ck.hu; omega)) hg hm PyProof.Rows.boot_str (pa_cons ha pa_nil he) (he := he)) fun σ H Q ⟨ρ, α, μ, S, sl, q⟩ => tD_bind S sl q fun v w H1 α1 μ1 st1 S1 sl1 r1 q1 => by
    cases w with
    | e c y =>
      cases y with
      | lim d => exact (show False from q1).elim
      | msg m =>
        dsimp only at q1
        split at q1
        · rename_i ec
          obtain ⟨p, D, t, rfl, g1, h1, n1, h2⟩ := r1
          obtain ⟨g2, g3⟩ := ht c D g1 (by simpa using ec)
          exact ⟨p, D, t, m, rfl, h1, h2, g2, g3, PQ.ok (w := .d (.str m)) S1 (.str m) q1⟩
        · exact (show False from q1).elim
    | _ => exact (show False from q1).elim
theorem lcE_rd {vs : List Nat} {i : Nat} {σ : L2.St} {H : Hp} {Q : VK} (hw : i ∈ vs) (q : tD (CvX X T) E (eLcE vs i f g) σ H Q) :
    tLc (iList X.K (tD (CvX X T) E f)) (gName i) tYes (tD (CvX X T) E0 g) vs σ H Q := by
  obtain ⟨ρ, α, μ, S, sl, q⟩ := q
  refine tD_bind (Q' := fun x H1 => ∃ a, x = .ref a ∧ (∃ xs, SqL X.K H1 a xs) ∧ _) S sl q fun v w H1 α1 μ1 st1 S1 sl1 r1 q1 => ?_
  cases w with
  | es l =>
    obtain ⟨p, us, rfl, hL, nO, rs⟩ := r1
    refine ⟨p, rfl, ⟨us, .inl hL⟩, fun P nP => ?_⟩
    have q1 : PQ (CvX X T) E Q H1 α1 μ1 (if l.length ≤ LIM then lcW i g (wipeE ρ vs) (l.map fun p => W.e p.1 p.2) [] μ1 else .no) := q1
    by_cases hLIM : l.length ≤ LIM
    case neg => rw [if_neg hLIM] at q1; exact (show False from q1).elim
    rw [if_pos hLIM] at q1
    have hlen := rs.length
    have I0 : LcInv (CvX X T) P H1 α1 μ1 0 [] (upd H1 P (.lst [])) α1 μ1 [] :=
      ⟨stor_hide S1 nP, ext_hide S1 nP, fun _ _ h => h, rfl, (Same.step S1 (same_upd nP)).keep, upd_same, Nat.le_refl _, .nil⟩
    refine ⟨fun n m H2 => m = l.length - n ∧ n ≤ l.length ∧ ∃ α2 μ2 acc accD, LcInv (CvX X T) P H1 α1 μ1 n accD H2 α2 μ2 acc ∧ PQ (CvX X T) E Q H1 α1 μ1 (lcW i g (wipeE ρ vs) ((l.drop n).map fun p => W.e p.1 p.2) accD μ2),
      ⟨l.length, rfl, Nat.zero_le _, α1, μ1, [], [], I0, q1⟩, ?_⟩
    rintro n m H2 ⟨rfl, hi, α2, μ2, acc, accD, I2, q2⟩
    have hT2 : Rd H2 p (.lst us) := (I2.ext.rd hL nO).1
    by_cases hlt : n < l.length
    · have hd : l[n]? = some (l[n]) := List.getElem?_eq_getElem hlt
      rw [List.drop_eq_getElem_cons hlt] at q2
      obtain ⟨v, hv, rv⟩ := rs.get (c := l[n].1) (y := l[n].2) hd
      have rv2 : RpW (CvX X T) H1 α1 μ1 v (.e l[n].1 l[n].2) := rv
      refine .inr ⟨⟨us, v, .inl hT2, hv⟩, fun H3 => n + 1 ≤ l.length ∧ ∃ α2 μ2 acc accD, LcInv (CvX X T) P H1 α1 μ1 (n + 1) accD H3 α2 μ2 acc ∧ PQ (CvX X T) E Q H1 α1 μ1 (lcW i g (wipeE ρ vs) ((l.drop (n + 1)).map fun p => W.e p.1 p.2) accD μ2), fun H3 n => ⟨_, by omega, rfl, n⟩, fun x H3 yy => ?_⟩
      obtain ⟨rfl, yy⟩ := yy
      have ex := yy us (.inl hT2)
      rw [hv] at ex
      cases ex
      have sl3 : Sl (CvX X T) H3 (α2.hide P) μ2 (L2.wipe σ vs) (wipeE ρ vs) := by
        have z := sl1.wipe vs
        refine ⟨z.len, fun i w h => ?_⟩
        obtain ⟨v, h1, h2⟩ := z.at_ i w h
        exact ⟨v, h1, rpw_inv I2 h2⟩
      have sl4 := sl3.set (rpw_inv I2 rv2) i
      refine ⟨wipe_set hw, ?_⟩
      dsimp only [tYes]
      rw [if_pos rfl]
      rw [List.map_cons] at q2
      unfold lcW at q2
      refine ⟨(wipeE ρ vs).set i (some (.e l[n].1 l[n].2)), α2.hide P, μ2, I2.stor, sl4, ?_⟩
      split at q2
      · rename_i z μ6 eg
        rw [eg]
        intro v6 H6 α6 st6 S6 r6
        obtain ⟨α7, e7, I7⟩ := I2.go st6 S6
        subst e7
        have hus : us.length ≤ sizeLine := by rw [hlen]; exact lim_line hLIM
        exact ⟨acc, I7.list, Nat.lt_of_le_of_lt I7.len (Nat.lt_of_lt_of_le hlt (by rw [← hlen]; exact hus)), hlt, α7, μ6, _, _, I7.put nP S1 r6, q2⟩
      · exact q2.elim
    · have e0 : l.drop n = [] := List.drop_eq_nil_of_le (by omega)
      rw [e0] at q2
      refine .inl ⟨⟨us, .inl hT2, by omega⟩, q2 _ H2 α2 I2.st (stor_unhide I2.stor) (.lst (.inl I2.list) (fun z => ?_) (I2.rep.ext ext_unhide))⟩
      have hn := (nodup_hide I2.stor).1
      rcases z with ⟨k, c, h1, h2⟩ | z
      · exact hn (List.mem_append_left _ (List.mem_of_getElem? h1))
      · exact hn (List.mem_append_right _ z)
  | _ => exact (show False from q1).elim
theorem de_lcE {i : Nat} {x : Str} {p : Pos} {it elt : Expr} {scope : Scope} {own : List (Str × Nat)} (ck : CK X E j) (hr : DE X T E it f) (ok : BlkOk X.N X.env.scope scope own)
    (hg : ∀ (s : Shared) (H : Hp) (D : Addr) (cl : List (Str × Addr)) (fp : List Addr), PG (X.blk s H scope (compEnvC scope cl D X.env) fp) (.Name x p) (gName i))
    (he : ∀ (s : Shared) (H : Hp) (D : Addr) (cl : List (Str × Addr)) (fp : List Addr), CK (X.blk s H scope (compEnvC scope cl D X.env) fp) E0 j → DE (X.blk s H scope (compEnvC scope cl D X.env) fp) T E0 elt g)
    (hw : i ∈ own.map (·.2) := by decide) (hs : ∀ x, foldedSetIterable it X.env x = pure x := by intro _; rfl) :
    DE X T E (.ListComp elt [⟨.Name x p, it, [], 0⟩] scope pos) (eLcE (own.map (·.2)) i f g) :=
  pe_imp (pe_lc (g := gName i) (tt := tYes) (te := tD (CvX X T) E0 g) ck.calm ck.nd (pi_list hr) ok hg (fun s H D cl fp => pts_nil) (fun s H D cl fp => he s H D cl fp (ck.blk s H scope _ fp)) hs) fun σ H Q q => lcE_rd hw q
end
end L3

set_option Elab.async false
set_option linter.all false
set_option maxRecDepth 100000
set_option maxHeartbeats 2000000
/-! The head's facts of an own exception class with an own __init__ (super() in it); isinstance and str of own errors. -/
namespace L3
open PySem PySem.Spec PyProof.Rows L2 Mi He
abbrev FnCW : Type := Option (Str × Str × Arguments × FuncBody × Scope × Addr × List Str × Addr)
def fnC (K : PySem.W.Frag) (x : Str) : FnCW := match K.lookup (ma K (ga K x) "__init__") with
  | some ⟨_, _, .func fd, _⟩ => some (fd.name, fd.qualname, fd.params, fd.body, fd.scope, fd.globals, fd.closure.map (·.1), fd.builtins)
  | _ => none
structure QrD where
  cls : Str
  qual : Str
  params : Arguments
  body : List Stmt
  scope : Scope
def QrD.val (d : QrD) : FnCW := some ("__init__", d.qual, d.params, .stmts d.body, d.scope, mainGlobals, ["__class__"], builtinsNs)
def oexB (K : PySem.W.Frag) (C : Addr) : Bool := match K.lookup C with
  | some ⟨.type "type", _, .cls cd, sl⟩ => (match cd.mro, sl.toList with
    | .ref C' :: bm, [_, _, _, _, some (.builtin n), _] => C' == C && (n == "ValueError.__new__" && (!cd.hasDel && (PySem.HandSPX.refsVE bm && cd.hasDict)))
    | _, _ => false)
  | _ => false
theorem oexB_ok {K : PySem.W.Frag} {C : Addr} (q : oexB K C = true) : ∃ nm q N bs bm sn sub ab col dd k0 k1 k2 k3 k5, K.lookup C = some (excClassObj nm q C N bs bm true sn sub ab col dd k0 k1 k2 k3 k5 "ValueError.__new__") ∧ PySem.HandSPX.refsVE bm = true := by
  unfold oexB at q
  split at q
  · rename_i dd cd sl ho
    split at q
    · rename_i C' bm k0 k1 k2 k3 n k5 hm hs
      simp only [Bool.and_eq_true, beq_iff_eq, Bool.not_eq_true'] at q
      obtain ⟨rfl, rfl, hdel, hr, hd⟩ := q
      obtain ⟨nm, bs, mro, ns, qn, hd', sn, sub, ab, col, del⟩ := cd
      dsimp only at hm hdel hd
      subst hm hdel hd
      have hsl : sl = #[k0, k1, k2, k3, some (.builtin "ValueError.__new__"), k5] := by
        obtain ⟨l⟩ := sl
        simp only at hs
        rw [hs]
      subst hsl
      exact ⟨nm, qn, ns, bs, bm, sn, sub, ab, col, dd, k0, k1, k2, k3, k5, ho, hr⟩
    · cases q
  · cases q
/-- where the code object of the own __init__ stands, its file, the cell of __class__ -/
def qCode (K : PySem.W.Frag) (x : Str) : Addr := match K.lookup (ma K (ga K x) "__init__") with
  | some ⟨_, _, .func fd, _⟩ => (match fd.code with | .ref c => c | _ => 0)
  | _ => 0
def qCell (K : PySem.W.Frag) (x : Str) : Addr := match K.lookup (ma K (ga K x) "__init__") with
  | some ⟨_, _, .func fd, _⟩ => (match fd.closure with | [(_, c)] => c | _ => 0)
  | _ => 0
def ownB (K : PySem.W.Frag) (x : Str) (qual : Str) (file : Str) : Bool :=
  oexB K (ga K x) && (eqO (PySem.W.findIn K (.ref (ga K x)) "__setattr__") (some (some (.builtin "object.__setattr__"))) && (decide (PySem.W.subIn K (.ref (ga K x)) (.type "BaseException") = some true) &&
  (decide (PySem.W.typeIn K (.ref (ga K x)) = some (.type "type")) && (PySem.W.keepIn K (.ref (ga K x)) && (eqO (PySem.W.findIn K (.ref (ga K x)) "__init__") (some (some (.ref (ma K (ga K x) "__init__")))) &&
  (decide (PySem.W.typeIn K (.ref (ma K (ga K x) "__init__")) = some (.type "function")) && (PySem.W.codeIn K (.ref (qCode K x)) qual && ((match K.lookup (qCode K x) with
    | some ⟨_, _, .fields vs, _⟩ => (match (vs[2]? : Option Value) with | some (Value.str f _) => f == file | _ => false)
    | _ => false) && ((match K.lookup (qCell K x) with
    | some ⟨_, _, .cell (some (.ref D)), _⟩ => D == ga K x
    | _ => false) && (decide (PySem.W.mroIn K (ga K x) (.ref (ga K x)) = some true) && (decide (PySem.W.nsIn K cStatics "thirdparty.any" = some none) && (eqO (PySem.W.ks_superIn K (ga K x) (ga K x) "__init__") (some (some (.builtin "ValueError.__init__"))) &&
  (decide (PySem.W.subIn K (.ref (ga K x)) (.type "ValueError") = some true) && (eqO (PySem.W.findIn K (.ref (ga K x)) "limit") (some none) && (xfB K (ga K x) &&
  (match K.lookup (ma K (ga K x) "__init__") with
    | some ⟨_, _, .func fd, _⟩ => (match fd.closure, fd.code with | [_], .ref _ => dflB K fd.defaults [] && kwdB K fd.kwdefaults [] | _, _ => false)
    | _ => false))))))))))))))))
theorem tmF_of {P : Program} {K : PySem.W.Frag} {x file : Str} {d : QrD} (hx : d.cls = x) (c : ownB K x d.qual file = true) (e : fnC K x = d.val) (hfile : (P.main.file : Str) = file) (htop : (P.main.scope.names.lookup ("super" : Str)).isSome = false) :
    TmF P K (ga K x) (ma K (ga K x) "__init__") (qCode K x) (qCell K x) d.qual d.params d.body d.scope ∧ PySem.W.findIn K (.ref (ga K x)) "__init__" = some (some (.ref (ma K (ga K x) "__init__"))) ∧ PySem.W.typeIn K (.ref (ma K (ga K x) "__init__")) = some (.type "function") ∧
      XfC K (ga K x) ∧ OexC K (ga K x) := by
  unfold ownB at c
  simp only [Bool.and_eq_true, decide_eq_true_eq] at c
  obtain ⟨c1, c2, c3, c4, c5, c6, c7, c8, c9, c10, c11, c12, c13, c14, c15, c16, c17⟩ := c
  refine ⟨⟨⟨oexB_ok c1, eqO_ok c2, c3, c4, c5⟩, ?_, c8, ?_, ?_, c11, htop, c12, eqO_ok c13, c14, eqO_ok c15⟩, eqO_ok c6, c7, xfB_ok c16, ⟨oexB_ok c1, eqO_ok c2, c3, c4, c5⟩⟩
  · unfold fnC at e
    cases q : K.lookup (ma K (ga K x) "__init__") with
    | none => rw [q] at c17; cases c17
    | some o =>
      obtain ⟨oc, od, dt, osl⟩ := o
      rw [q] at c17 e
      cases dt with
      | func fd =>
        have e2 : (some (fd.name, fd.qualname, fd.params, fd.body, fd.scope, fd.globals, fd.closure.map (·.1), fd.builtins) : FnCW) = some (("__init__" : Str), d.qual, d.params, FuncBody.stmts d.body, d.scope, mainGlobals, (["__class__"] : List Str), builtinsNs) := e
        have hc : qCode K x = (match fd.code with | .ref c => c | _ => 0) := by unfold qCode; rw [q]
        have hk : qCell K x = (match fd.closure with | [(_, c)] => c | _ => 0) := by unfold qCell; rw [q]
        cases fd with
        | mk a1 a2 a3 a4 a5 a6 a7 a8 a9 a10 a11 a12 a13 a14 a15 =>
          simp only [Option.some.injEq, Prod.mk.injEq] at e2
          obtain ⟨h1, h2, h3, h4, h5, h6, h7, h8⟩ := e2
          dsimp only at hc hk c17
          subst h1 h2 h3 h4 h5 h6 h8
          cases a7 with
          | nil => exact absurd (congrArg List.length h7) (by simp)
          | cons p a7 =>
            cases a7 with
            | cons p2 a7 => exact absurd (congrArg List.length h7) (by simp)
            | nil =>
              obtain ⟨p1, p2⟩ := p
              have h8 : p1 = ("__class__" : Str) := (List.cons.inj h7).1
              subst h8
              cases a13 with
              | ref c0 =>
                have c17 : (dflB K a8 [] && kwdB K a9 []) = true := c17
                obtain ⟨c18, _⟩ := ba c17
                cases a8 with
                | none => exact ⟨oc, od, a9, a10, a11, a12, a14, osl, by rw [hc, hk]⟩
                | _ => cases c18
              | _ => cases c17
      | _ => cases c17
  · split at c9
    · rename_i a b vs sl q
      split at c9
      · rename_i f tf e2
        exact ⟨_, _, vs, _, f, tf, q, e2, by rw [hfile, eq_of_beq c9]; exact beq_self_eq_true _⟩
      · cases c9
    · cases c9
  · split at c10
    · rename_i a b D sl q
      have := eq_of_beq c10
      subst this
      exact ⟨_, _, _, q⟩
    · cases c10
/-- all that a law needs of such a class -/
structure OwnTm (P : Program) (K : PySem.W.Frag) (mg : Str → Option Value) (x : Str) : Prop where
  ex : ∃ C fI cda cc qual params body scope msg, mg x = some (.ref C) ∧ mg "super" = none ∧ TmF P K C fI cda cc qual params body scope ∧ tmText msg scope body ∧ TmS params scope ∧ PySem.W.findIn K (.ref C) "__init__" = some (some (.ref fI)) ∧
    PySem.W.typeIn K (.ref fI) = some (.type "function") ∧ XfC K C ∧ ∀ (kV doc pm : Value) (an : Option Addr) (cdv ct : Value) (cc : Addr) (us : List Value), us.length = 2 → bindArgs (PySem.W.ksFn "__init__" qual params body scope .none kV doc pm an cdv ct cc) ⟨us, []⟩ = pure ((["self", "limit"] : List Str).zip us)
theorem OwnTm.tm {P : Program} {w : World} {K : PySem.W.Frag} {mg : Str → Option Value} {base : Heap} {x : Str} (o : OwnTm P K mg x) : TmT P w K mg base x := by
  obtain ⟨C, fI, cda, cc, qual, params, body, scope, msg, hx, hs, T, hB, S, iC, tI, xf, hb⟩ := o.ex
  obtain ⟨oc, od, kV, doc, pm, an, ct, osl, lk⟩ := T.lk
  exact ⟨C, fI, _, hx, T.ox, iC, tI, Binds.all fun us hl => hb kV doc pm an (.ref cda) ct cc us hl, tm_ok (k := 0) T hs hB S ⟨oc, od, osl, lk⟩, xf, T.lim⟩
theorem OwnTm.lim {P : Program} {K : PySem.W.Frag} {mg : Str → Option Value} {x : Str} (o : OwnTm P K mg x) : ∀ D, mg x = some (.ref D) → XfC K D ∧ PySem.W.findIn K (.ref D) "limit" = some none := fun D hD => by
  obtain ⟨C, fI, cda, cc, qual, params, body, scope, msg, hx, hs, T, hB, S, iC, tI, xf, hb⟩ := o.ex
  rw [hx] at hD
  cases hD
  exact ⟨xf, T.lim⟩
/-! ### isinstance, str -/
/-- what is asked of the class x, as a row of answers -/
def vRowB (K : PySem.W.Frag) (x : Str) (b : Nat → Bool) : Bool := excCB K (ga K x) && (decide (PySem.W.kitOne K (.ref (ga K x)) (.ref (ga K "WalkError")) = some true) && (decide (PySem.W.kitOne K (.ref (ga K x)) (.type "ValueError") = some (b 16)) &&
  (((List.range 16).all fun j => decide (PySem.W.kitOne K (.ref (ga K x)) (.ref (ga K (ownCls.getD j ""))) = some (b j))) && (eqO (PySem.W.findIn K (.ref (ga K x)) "__str__") (some (some (.builtin "BaseException.__str__"))) && decide (PySem.W.subIn K (.ref (ga K x)) (.type "BaseException") = some true)))))
structure VRow (K : PySem.W.Frag) (mg : Str → Option Value) (x : Str) (b : Nat → Bool) : Prop where
  ex : ∃ D CS, mg x = some (.ref D) ∧ mg "WalkError" = some (.ref CS) ∧ ExcC K D ∧ PySem.W.kitOne K (.ref D) (.ref CS) = some true ∧ PySem.W.kitOne K (.ref D) (.type "ValueError") = some (b 16) ∧
    (∀ (j : Nat) (y : Str) (A : Addr), ownCls[j]? = some y → mg y = some (.ref A) → PySem.W.kitOne K (.ref D) (.ref A) = some (b j)) ∧ PySem.W.findIn K (.ref D) "__str__" = some (some (.builtin "BaseException.__str__")) ∧ PySem.W.subIn K (.ref D) (.type "BaseException") = some true
theorem vRow_ok {K : PySem.W.Frag} {mg : Str → Option Value} {x : Str} {b : Nat → Bool} (h : vRowB K x b = true) (hx : mg x = some (.ref (ga K x))) (hW : mg "WalkError" = some (.ref (ga K "WalkError"))) (hg : ∀ y ∈ ownCls, mg y = some (.ref (ga K y))) : VRow K mg x b := by
  unfold vRowB at h
  simp only [Bool.and_eq_true, decide_eq_true_eq, List.all_eq_true] at h
  obtain ⟨h1, h2, h3, h4, h5, h6⟩ := h
  refine ⟨ga K x, ga K "WalkError", hx, hW, excCB_ok h1, h2, h3, fun j y A hj hy => ?_, eqO_ok h5, h6⟩
  have e := hg y (List.mem_of_getElem? hj)
  rw [hy] at e
  cases e
  have hlt : j < 16 := (List.getElem?_eq_some_iff.mp hj).1
  have z := h4 j (List.mem_range.mpr hlt)
  rw [show ownCls.getD j "" = y from by rw [List.getD_eq_getElem?_getD, hj]; rfl] at z
  exact z
/-- all rows -/
structure VRows (K : PySem.W.Frag) (mg : Str → Option Value) : Prop where
  own : ∀ i x, ownCls.idxOf? x = some i → VRow K mg x (bOf i)
  walk : VRow K mg "WalkError" (fun j => j == 16)
def vRowsB (K : PySem.W.Frag) : Bool := (ownCls.all fun x => match ownCls.idxOf? x with | some i => vRowB K x (bOf i) | none => false) && vRowB K "WalkError" (fun j => j == 16)
theorem idx_mem {x : Str} {i : Nat} (h : ownCls.idxOf? x = some i) : x ∈ ownCls := by
  have z := List.isSome_idxOf? (l := ownCls) (a := x)
  rw [h] at z
  simpa using z
theorem vRows_ok {K : PySem.W.Frag} {mg : Str → Option Value} (h : vRowsB K = true) (hW : mg "WalkError" = some (.ref (ga K "WalkError"))) (hg : ∀ y ∈ ownCls, mg y = some (.ref (ga K y))) : VRows K mg := by
  obtain ⟨h1, h2⟩ := ba h
  refine ⟨fun i x hi => ?_, vRow_ok h2 hW hW hg⟩
  have hm := idx_mem hi
  have z := List.all_eq_true.mp h1 x hm
  rw [hi] at z
  exact vRow_ok z (hg x hm) hW hg
section
variable {K : PySem.W.Frag} {mg : Str → Option Value}
theorem VRows.is (v : VRows K mg) {j : Nat} {y : Str} {A : Addr} (hj : ownCls[j]? = some y) (hA : mg y = some (.ref A)) : ∀ x b, isTab j x = some b → ∃ D, mg x = some (.ref D) ∧ ExcC K D ∧ PySem.W.kitOne K (.ref D) (.ref A) = some b := fun x b e => by
  unfold isTab at e
  split at e
  · rename_i ex
    subst ex
    obtain ⟨D, CS, h1, h2, h3, h4, h5, h6, _⟩ := v.walk.ex
    cases e
    exact ⟨D, h1, h3, h6 j y A hj hA⟩
  · cases ei : ownCls.idxOf? x with
    | none => rw [ei] at e; cases e
    | some i =>
      rw [ei] at e
      cases e
      obtain ⟨D, CS, h1, h2, h3, h4, h5, h6, _⟩ := (v.own i x ei).ex
      exact ⟨D, h1, h3, h6 j y A hj hA⟩
theorem VRows.isV (v : VRows K mg) : ∀ x b, isTab 16 x = some b → ∃ D, mg x = some (.ref D) ∧ ExcC K D ∧ PySem.W.kitOne K (.ref D) (.type "ValueError") = some b := fun x b e => by
  unfold isTab at e
  split at e
  · rename_i ex
    subst ex
    obtain ⟨D, CS, h1, h2, h3, h4, h5, h6, _⟩ := v.walk.ex
    cases e
    exact ⟨D, h1, h3, h5⟩
  · cases ei : ownCls.idxOf? x with
    | none => rw [ei] at e; cases e
    | some i =>
      rw [ei] at e
      cases e
      obtain ⟨D, CS, h1, h2, h3, h4, h5, h6, _⟩ := (v.own i x ei).ex
      exact ⟨D, h1, h3, h5⟩
theorem VRows.isW (v : VRows K mg) {A : Addr} (hA : mg "WalkError" = some (.ref A)) : ∀ x b, isTabW x = some b → ∃ D, mg x = some (.ref D) ∧ ExcC K D ∧ PySem.W.kitOne K (.ref D) (.ref A) = some b := fun x b e => by
  unfold isTabW at e
  split at e
  · rename_i hx
    cases e
    rcases hx with rfl | hx
    · obtain ⟨D, CS, h1, h2, h3, h4, _⟩ := v.walk.ex
      rw [hA] at h2
      cases h2
      exact ⟨D, h1, h3, h4⟩
    · have hm : x ∈ ownCls := by simpa using hx
      cases ei : ownCls.idxOf? x with
      | none =>
        have z := List.isSome_idxOf? (l := ownCls) (a := x)
        rw [ei] at z
        simp [hm] at z
      | some i =>
        obtain ⟨D, CS, h1, h2, h3, h4, _⟩ := (v.own i x ei).ex
        rw [hA] at h2
        cases h2
        exact ⟨D, h1, h3, h4⟩
  · cases e
theorem VRows.str (v : VRows K mg) : ∀ c D, mg c = some (.ref D) → c ∈ ownCls → PySem.W.findIn K (.ref D) "__str__" = some (some (.builtin "BaseException.__str__")) ∧ PySem.W.subIn K (.ref D) (.type "BaseException") = some true := fun c D hD hm => by
  cases ei : ownCls.idxOf? c with
  | none =>
    have z := List.isSome_idxOf? (l := ownCls) (a := c)
    rw [ei] at z
    simp [hm] at z
  | some i =>
    obtain ⟨D', CS, h1, h2, h3, h4, h5, h6, h7, h8⟩ := (v.own i c ei).ex
    rw [hD] at h1
    cases h1
    exact ⟨h7, h8⟩
end
/-! ### the hook with such classes -/
/-- .. the model's own flags too -/
def asC (g : Addr → Option Obj) (n : Nat) : List Addr := asD g n ++ [cStatics]
def obsXQ (n : Nat) (fa : List Fa) (fn : List DefD) (ts : List Tab) (tf : List Defn) (ex : PySem.W.Frag → Bool) (g : Addr → Option Obj) : AlX := (obsT fa fn ts (frT g (asC g n)), ex (frT g (asC g n)) && tabsB g tf (frT g (asC g n)))
theorem saysXQ_of {n : Nat} {fa : List Fa} {fn : List DefD} {ts : List Tab} {tf : List Defn} {ex : PySem.W.Frag → Bool} {w : World} {h : Heap} (e : obsXQ n fa fn ts tf ex h.get? = valX fn ts w) : SaysX fa fn ts tf ex w h (frT h.get? (asC h.get? n)) := by
  have e1 : obsT fa fn ts (frT h.get? (asC h.get? n)) = valT fn ts w := congrArg (fun z : AlX => z.1) e
  have e2 : (ex (frT h.get? (asC h.get? n)) && tabsB h.get? tf (frT h.get? (asC h.get? n))) = true := congrArg (fun z : AlX => z.2) e
  obtain ⟨h1, h2⟩ := ba e2
  have key : ∀ p ∈ tf, PySem.W.codeHdIn (frT h.get? (asC h.get? n)) (cT (frT h.get? (asC h.get? n)) p).1 (cT (frT h.get? (asC h.get? n)) p).2 = true ∧ ∃ o, h.get? (cT (frT h.get? (asC h.get? n)) p).2 = some o ∧ emptyTab o = true := fun p hp => by
    obtain ⟨h3, h4⟩ := ba (List.all_eq_true.mp h2 p hp)
    refine ⟨h3, ?_⟩
    cases q : h.get? (cT (frT h.get? (asC h.get? n)) p).2 with
    | none => rw [q] at h4; cases h4
    | some o => rw [q] at h4; exact ⟨o, rfl, h4⟩
  refine ⟨e1, h1, fun p hp => (key p hp).1, fun p hp => ?_, fun p hp => ?_⟩
  · obtain ⟨_, o, q, z⟩ := key p hp
    exact frT_none q z
  · obtain ⟨_, o, q, z⟩ := key p hp
    rw [q, emptyTab_eq z]
structure SaysQ (fa : List Fa) (fn : List DefD) (ts : List Tab) (tf : List Defn) (ex : PySem.W.Frag → Bool) (pr : List PrD) (qr : List QrD) (w : World) (h : Heap) (K : PySem.W.Frag) : Prop where
  x : SaysP fa fn ts tf ex pr w h K
  q : (qr.map fun d => fnC K d.cls) = qr.map QrD.val
theorem SaysQ.get {fa : List Fa} {fn : List DefD} {ts : List Tab} {tf : List Defn} {ex : PySem.W.Frag → Bool} {pr : List PrD} {qr : List QrD} {w : World} {h : Heap} {K : PySem.W.Frag} (c : SaysQ fa fn ts tf ex pr qr w h K) (i : Nat) {d : QrD} (e : qr[i]? = some d) : fnC K d.cls = d.val := by
  have z := congrArg (fun l => l[i]?) c.q
  simp only [List.getElem?_map, e, Option.map_some, Option.some.injEq] at z
  exact z
abbrev AlQ : Type := (AlX × List FnW) × List FnCW
def obsQ (n : Nat) (fa : List Fa) (fn : List DefD) (ts : List Tab) (tf : List Defn) (ex : PySem.W.Frag → Bool) (pr : List PrD) (qr : List QrD) (g : Addr → Option Obj) : AlQ := ((obsXQ n fa fn ts tf ex g, pr.map fun d => fnP (frT g (asC g n)) d.at_), qr.map fun d => fnC (frT g (asC g n)) d.cls)
def hookQ (n : Nat) (fa : List Fa) (fn : List DefD) (ts : List Tab) (tf : List Defn) (ex : PySem.W.Frag → Bool) (pr : List PrD) (qr : List QrD) : PySem.W.Hook where
  α := AlQ
  obs := fun s => obsQ n fa fn ts tf ex pr qr s.heap.get?
  val := fun w => ((valX fn ts w, pr.map PrD.val), qr.map QrD.val)
  says := fun w h => ∃ K : PySem.W.Frag, K.In h ∧ SaysQ fa fn ts tf ex pr qr w h K
  of := fun w s e => ⟨_, frT_in, ⟨⟨saysXQ_of (congrArg (fun z : AlQ => z.1.1) e), congrArg (fun z : AlQ => z.1.2) e⟩, congrArg (fun z : AlQ => z.2) e⟩⟩
  keeps := fun _ _ _ ⟨K, hK, c⟩ k => ⟨K, PySem.W.Frag.In.keeps hK k, ⟨⟨⟨c.x.x.t, c.x.x.more, c.x.x.hd, c.x.x.out, fun p hp => k _ _ (c.x.x.empty p hp)⟩, c.x.p⟩, c.q⟩⟩
theorem obsQ_eq {n : Nat} {fa : List Fa} {fn : List DefD} {ts : List Tab} {tf : List Defn} {ex : PySem.W.Frag → Bool} {pr : List PrD} {qr : List QrD} {g : Addr → Option Obj} {s : Shared} (h : ∀ a, g a = s.heap.get? a) : obsQ n fa fn ts tf ex pr qr g = (hookQ n fa fn ts tf ex pr qr).obs s := by
  have e : g = s.heap.get? := funext h
  rw [e]
  rfl
theorem clsAt_eq {mg : Str → Option Value} {x : Str} {a : Addr} (h : mg x = some (.ref a)) : clsAt mg x = a := by
  unfold clsAt
  rw [h]
end L3

set_option linter.all false
set_option Elab.async false
/-! The mirrors of the defs (printed by gen.py). -/
namespace Mir
open PySem Mi
/-- the own classes that are raised -/
def clsL : List Str := []
/-- _law_plain: 0 some -/
def F__law_plain : SF :=
    (sSeq (sAsg 0 (eLstE (aCons (eExc "InvalidChange" "m") (aCons (eExc "InvalidPiece" "m") (aCons (eExc "InvalidStatement" "m") (aCons (eExc "InvalidWorth" "m") (aCons (eExc "InvalidNumber" "m") aNil)))))))
    (sSeq (sAsg 0 (eCatE (eVar 0) (eLstE (aCons (eExc "InvalidOrder" "m") (aCons (eExc "InvalidPrices" "m") (aCons (eExc "InvalidPairs" "m") (aCons (eExc "InvalidText" "m") (aCons (eExc "InvalidIndex" "m") aNil))))))))
    (sRet (eCatE (eVar 0) (eLstE (aCons (eExc "InvalidRow" "m") (aCons (eExc "InvalidTable" "m") (aCons (eExc "Unlike" "m") (aCons (eExc "Done" "m") (aCons (eExc "NothingToUndo" "m") aNil))))))))))
def g__law_plain : GF := fnOf 0 1 F__law_plain
/-- _law_kinds: 0 e, 1 some -/
def F__law_kinds : SF :=
    (sSeq (sAsg 1 (eLst (aCons (eIsV (isTab 0) (eVar 0)) (aCons (eIsV (isTab 1) (eVar 0)) (aCons (eIsV (isTab 2) (eVar 0)) aNil)))))
    (sSeq (sAsg 1 (eOp dAdd (eVar 1) (eLst (aCons (eIsV (isTab 3) (eVar 0)) (aCons (eIsV (isTab 4) (eVar 0)) (aCons (eIsV (isTab 5) (eVar 0)) aNil))))))
    (sSeq (sAsg 1 (eOp dAdd (eVar 1) (eLst (aCons (eIsV (isTab 6) (eVar 0)) (aCons (eIsV (isTab 7) (eVar 0)) (aCons (eIsV (isTab 8) (eVar 0)) aNil))))))
    (sSeq (sAsg 1 (eOp dAdd (eVar 1) (eLst (aCons (eIsV (isTab 9) (eVar 0)) (aCons (eIsV (isTab 10) (eVar 0)) (aCons (eIsV (isTab 11) (eVar 0)) aNil))))))
    (sRet (eOp dAdd (eVar 1) (eLst (aCons (eIsV (isTab 12) (eVar 0)) (aCons (eIsV (isTab 13) (eVar 0)) (aCons (eIsV (isTab 14) (eVar 0)) (aCons (eIsV (isTab 15) (eVar 0)) aNil)))))))))))
def g__law_kinds : GF := fnOf 1 2 F__law_kinds
/-- law: 0 script, 1 some, 2 at, 3 cell, 4 one, 5 e, 6 other -/
def F_law : SF :=
    (sSeq (sAsg 1 (eCatE (eCall g__law_plain aNil) (eLstE (aCons (eNewX "TooMany" (eInt 60)) aNil))))
    (sSeq (sFor (tName 2) (iRange1 (eLenE (eVar 1))) (sSeq (sIf (eOr (eNot (eIsV isTabW (eIxE (eVar 1) (eVar 2)))) (eNot (eIsV (isTab 16) (eIxE (eVar 1) (eVar 2))))) (sRet (eBl false)) sNil)
    (sIf (eOp dNe (eCall g__law_kinds (aCons (eIxE (eVar 1) (eVar 2)) aNil)) (eLc [6] (tName 6) (iRange1 (eLenE (eVar 1))) eYes (eOp dEq (eVar 6) (eVar 2)))) (sRet (eBl false)) sNil)))
    (sSeq (sIf (eOr (eOp dNe (eCall g__law_kinds (aCons (eExc "WalkError" "m") aNil)) (eOp dMul (eLst (aCons (eBl false) aNil)) (eInt 16))) (eNot (eIsV (isTab 16) (eExc "WalkError" "m")))) (sRet (eBl false)) sNil)
    (sSeq (sFor (tName 3) (iSeq (eOp dAdd (eLst (aCons (eInt 40) aNil)) (eLc [4] (tName 4) (iSeq (eVar 0)) (eChain dLt dLt (eOp dSub (eInt 0) (eOp dPow (eInt 10) (eInt 40))) (eVar 4) (eOp dPow (eInt 10) (eInt 40))) (eVar 4)))) (sIf (eOp dNe (eLim "TooMany" (eNewX "TooMany" (eVar 3))) (eVar 3)) (sRet (eBl false)) sNil))
    (sRet (eOp dEq (eLcE [5] 5 (eCall g__law_plain aNil) (eStrX (eVar 5))) (eOp dMul (eLst (aCons (eStr "m") aNil)) (eInt 15))))))))
def g_law : GF := fnOf 1 7 F_law
end Mir

set_option linter.all false
set_option Elab.async false
set_option maxRecDepth 100000
set_option maxHeartbeats 4000000
/-! The walks of the defs (printed by gen.py). -/
namespace Wlk
open PySem PySem.Spec PyProof.Rows L2 Mi L3 Mir
def topS (i : Nat) : Stmt := PySem.Challenge.pw_metagain_k19_classes_of_errors.main.body.getD i (.Pass ⟨0, 0, 0, 0⟩)
def bodyC : Stmt → List Stmt
  | .ClassDef (body := b) .. => b
  | _ => []
def clsM (i j : Nat) : Stmt := (bodyC (topS i)).getD j (.Pass ⟨0, 0, 0, 0⟩)
structure Txt (P : Program) (K : PySem.W.Frag) (mg : Str → Option Value) : Prop where
  d__law_plain : DefFact K mg "_law_plain" (topS 19) []
  d__law_kinds : DefFact K mg "_law_kinds" (topS 20) ["e"]
  tm : OwnTm P K mg "TooMany"
  v_rows : VRows K mg
  o_InvalidChange : ∃ A, mg "InvalidChange" = some (.ref A)
  o_InvalidPiece : ∃ A, mg "InvalidPiece" = some (.ref A)
  o_InvalidStatement : ∃ A, mg "InvalidStatement" = some (.ref A)
  o_InvalidWorth : ∃ A, mg "InvalidWorth" = some (.ref A)
  o_InvalidNumber : ∃ A, mg "InvalidNumber" = some (.ref A)
  o_InvalidOrder : ∃ A, mg "InvalidOrder" = some (.ref A)
  o_InvalidPrices : ∃ A, mg "InvalidPrices" = some (.ref A)
  o_InvalidPairs : ∃ A, mg "InvalidPairs" = some (.ref A)
  o_InvalidText : ∃ A, mg "InvalidText" = some (.ref A)
  o_InvalidIndex : ∃ A, mg "InvalidIndex" = some (.ref A)
  o_InvalidRow : ∃ A, mg "InvalidRow" = some (.ref A)
  o_InvalidTable : ∃ A, mg "InvalidTable" = some (.ref A)
  o_Unlike : ∃ A, mg "Unlike" = some (.ref A)
  o_Done : ∃ A, mg "Done" = some (.ref A)
  o_NothingToUndo : ∃ A, mg "NothingToUndo" = some (.ref A)
  o_TooMany : ∃ A, mg "TooMany" = some (.ref A)
  o_WalkError : ∃ A, mg "WalkError" = some (.ref A)
  z_ValueError : mg "ValueError" = none
  z_isinstance : mg "isinstance" = none
  z_len : mg "len" = none
  z_range : mg "range" = none
  z_str : mg "str" = none
  z_super : mg "super" = none
  x_WalkError : OwnEx K mg "WalkError"
  x_InvalidChange : OwnEx K mg "InvalidChange"
  x_InvalidPiece : OwnEx K mg "InvalidPiece"
  x_InvalidStatement : OwnEx K mg "InvalidStatement"
  x_InvalidWorth : OwnEx K mg "InvalidWorth"
  x_InvalidNumber : OwnEx K mg "InvalidNumber"
  x_InvalidOrder : OwnEx K mg "InvalidOrder"
  x_InvalidPrices : OwnEx K mg "InvalidPrices"
  x_InvalidPairs : OwnEx K mg "InvalidPairs"
  x_InvalidText : OwnEx K mg "InvalidText"
  x_InvalidIndex : OwnEx K mg "InvalidIndex"
  x_InvalidRow : OwnEx K mg "InvalidRow"
  x_InvalidTable : OwnEx K mg "InvalidTable"
  x_Unlike : OwnEx K mg "Unlike"
  x_Done : OwnEx K mg "Done"
  x_NothingToUndo : OwnEx K mg "NothingToUndo"
structure LTxt (K : PySem.W.Frag) (mg : Str → Option Value) (base : Heap) (T : List (Addr × Str)) : Prop where
  l_none : True
section
variable {P : Program} {w : World} {K : PySem.W.Frag} {mg : Str → Option Value} {base : Heap} {T : List (Addr × Str)}
theorem h__law_plain (t : Txt P K mg) : HasFn P w K mg base T 1 "_law_plain" g__law_plain :=
  fn_okD t.d__law_plain (show FnScope ["some"] [] (defScope (topS 19)) from ⟨rfl, rfl, rfl, by decide +kernel, rfl, by decide +kernel, by decide +kernel⟩) fun f cdv A outer s H E ck hp => by
    unfold F__law_plain
    exact (dss_cons (ds_set 0 ck (de_lstE (da_cons (de_exc1 t.x_InvalidChange) (da_cons (de_exc1 t.x_InvalidPiece) (da_cons (de_exc1 t.x_InvalidStatement) (da_cons (de_exc1 t.x_InvalidWorth) (da_cons (de_exc1 t.x_InvalidNumber) da_nil)))))))
    (dss_cons (ds_set 0 ck (de_catE (de_var 0) (de_lstE (da_cons (de_exc1 t.x_InvalidOrder) (da_cons (de_exc1 t.x_InvalidPrices) (da_cons (de_exc1 t.x_InvalidPairs) (da_cons (de_exc1 t.x_InvalidText) (da_cons (de_exc1 t.x_InvalidIndex) da_nil))))))))
    (dss_one (ds_ret (de_catE (de_var 0) (de_lstE (da_cons (de_exc1 t.x_InvalidRow) (da_cons (de_exc1 t.x_InvalidTable) (da_cons (de_exc1 t.x_Unlike) (da_cons (de_exc1 t.x_Done) (da_cons (de_exc1 t.x_NothingToUndo) da_nil)))))))))))
theorem h__law_kinds (t : Txt P K mg) : HasFn P w K mg base T 1 "_law_kinds" g__law_kinds :=
  fn_okD t.d__law_kinds (show FnScope ["e", "some"] ["e"] (defScope (topS 20)) from ⟨rfl, rfl, rfl, by decide +kernel, rfl, by decide +kernel, by decide +kernel⟩) fun f cdv A outer s H E ck hp => by
    unfold F__law_kinds
    obtain ⟨A_Done, g_Done⟩ := t.o_Done
    obtain ⟨A_InvalidChange, g_InvalidChange⟩ := t.o_InvalidChange
    obtain ⟨A_InvalidIndex, g_InvalidIndex⟩ := t.o_InvalidIndex
    obtain ⟨A_InvalidNumber, g_InvalidNumber⟩ := t.o_InvalidNumber
    obtain ⟨A_InvalidOrder, g_InvalidOrder⟩ := t.o_InvalidOrder
    obtain ⟨A_InvalidPairs, g_InvalidPairs⟩ := t.o_InvalidPairs
    obtain ⟨A_InvalidPiece, g_InvalidPiece⟩ := t.o_InvalidPiece
    obtain ⟨A_InvalidPrices, g_InvalidPrices⟩ := t.o_InvalidPrices
    obtain ⟨A_InvalidRow, g_InvalidRow⟩ := t.o_InvalidRow
    obtain ⟨A_InvalidStatement, g_InvalidStatement⟩ := t.o_InvalidStatement
    obtain ⟨A_InvalidTable, g_InvalidTable⟩ := t.o_InvalidTable
    obtain ⟨A_InvalidText, g_InvalidText⟩ := t.o_InvalidText
    obtain ⟨A_InvalidWorth, g_InvalidWorth⟩ := t.o_InvalidWorth
    obtain ⟨A_NothingToUndo, g_NothingToUndo⟩ := t.o_NothingToUndo
    obtain ⟨A_TooMany, g_TooMany⟩ := t.o_TooMany
    obtain ⟨A_Unlike, g_Unlike⟩ := t.o_Unlike
    exact (dss_cons (ds_set 1 ck (de_lst (da_cons (de_isV t.z_isinstance (de_var 0) (pe_glob rfl g_InvalidChange (v := .ref A_InvalidChange) rfl) (fun _ h => h) (t.v_rows.is (j := 0) rfl g_InvalidChange)) (da_cons (de_isV t.z_isinstance (de_var 0) (pe_glob rfl g_InvalidPiece (v := .ref A_InvalidPiece) rfl) (fun _ h => h) (t.v_rows.is (j := 1) rfl g_InvalidPiece)) (da_cons (de_isV t.z_isinstance (de_var 0) (pe_glob rfl g_InvalidStatement (v := .ref A_InvalidStatement) rfl) (fun _ h => h) (t.v_rows.is (j := 2) rfl g_InvalidStatement)) da_nil)))))
    (dss_cons (ds_set 1 ck (de_op op_addA os_add (de_var 1) (de_lst (da_cons (de_isV t.z_isinstance (de_var 0) (pe_glob rfl g_InvalidWorth (v := .ref A_InvalidWorth) rfl) (fun _ h => h) (t.v_rows.is (j := 3) rfl g_InvalidWorth)) (da_cons (de_isV t.z_isinstance (de_var 0) (pe_glob rfl g_InvalidNumber (v := .ref A_InvalidNumber) rfl) (fun _ h => h) (t.v_rows.is (j := 4) rfl g_InvalidNumber)) (da_cons (de_isV t.z_isinstance (de_var 0) (pe_glob rfl g_InvalidOrder (v := .ref A_InvalidOrder) rfl) (fun _ h => h) (t.v_rows.is (j := 5) rfl g_InvalidOrder)) da_nil))))))
    (dss_cons (ds_set 1 ck (de_op op_addA os_add (de_var 1) (de_lst (da_cons (de_isV t.z_isinstance (de_var 0) (pe_glob rfl g_InvalidPrices (v := .ref A_InvalidPrices) rfl) (fun _ h => h) (t.v_rows.is (j := 6) rfl g_InvalidPrices)) (da_cons (de_isV t.z_isinstance (de_var 0) (pe_glob rfl g_InvalidPairs (v := .ref A_InvalidPairs) rfl) (fun _ h => h) (t.v_rows.is (j := 7) rfl g_InvalidPairs)) (da_cons (de_isV t.z_isinstance (de_var 0) (pe_glob rfl g_InvalidText (v := .ref A_InvalidText) rfl) (fun _ h => h) (t.v_rows.is (j := 8) rfl g_InvalidText)) da_nil))))))
    (dss_cons (ds_set 1 ck (de_op op_addA os_add (de_var 1) (de_lst (da_cons (de_isV t.z_isinstance (de_var 0) (pe_glob rfl g_InvalidIndex (v := .ref A_InvalidIndex) rfl) (fun _ h => h) (t.v_rows.is (j := 9) rfl g_InvalidIndex)) (da_cons (de_isV t.z_isinstance (de_var 0) (pe_glob rfl g_InvalidRow (v := .ref A_InvalidRow) rfl) (fun _ h => h) (t.v_rows.is (j := 10) rfl g_InvalidRow)) (da_cons (de_isV t.z_isinstance (de_var 0) (pe_glob rfl g_InvalidTable (v := .ref A_InvalidTable) rfl) (fun _ h => h) (t.v_rows.is (j := 11) rfl g_InvalidTable)) da_nil))))))
    (dss_one (ds_ret (de_op op_addA os_add (de_var 1) (de_lst (da_cons (de_isV t.z_isinstance (de_var 0) (pe_glob rfl g_Unlike (v := .ref A_Unlike) rfl) (fun _ h => h) (t.v_rows.is (j := 12) rfl g_Unlike)) (da_cons (de_isV t.z_isinstance (de_var 0) (pe_glob rfl g_Done (v := .ref A_Done) rfl) (fun _ h => h) (t.v_rows.is (j := 13) rfl g_Done)) (da_cons (de_isV t.z_isinstance (de_var 0) (pe_glob rfl g_NothingToUndo (v := .ref A_NothingToUndo) rfl) (fun _ h => h) (t.v_rows.is (j := 14) rfl g_NothingToUndo)) (da_cons (de_isV t.z_isinstance (de_var 0) (pe_glob rfl g_TooMany (v := .ref A_TooMany) rfl) (fun _ h => h) (t.v_rows.is (j := 15) rfl g_TooMany)) da_nil))))))))))))
theorem ok_law (t : Txt P K mg) (l : LTxt K mg base T) {f fd} (tl : DefL K mg base T "law" (topS 21) ["script"] f fd) : FnOk P w K mg base (L2N.CX P w) 3 f fd ["script"] (spD ⟨K, mg, T⟩ g_law) :=
  fn_okF tl (show FnScope ["script", "some", "at", "cell", "one", "e", "other"] ["script"] (defScope (topS 21)) from ⟨rfl, rfl, rfl, by decide +kernel, rfl, by decide +kernel, by decide +kernel⟩) fun f cdv A outer s H E ck hp la => by
    unfold F_law
    obtain ⟨A_WalkError, g_WalkError⟩ := t.o_WalkError
    exact (dss_cons (ds_set 1 ck (de_catE (de_call0 ck (h__law_plain t)) (de_lstE (da_cons (de_newX ck t.tm.tm de_int) da_nil))))
    (dss_cons (ds_for ck hp (di_range1 (de_lenE t.z_len (de_var 1)) t.z_range) (dg_name 2 ck.nd) (dss_cons (ds_if (dt_w (dw_or (dt_not (dt_val (de_isV t.z_isinstance (de_ixE (de_var 1) (de_var 2)) (pe_glob rfl g_WalkError (v := .ref A_WalkError) rfl) (fun _ h => h) (t.v_rows.isW g_WalkError)))) (dw_or1 (dt_not (dt_val (de_isV t.z_isinstance (de_ixE (de_var 1) (de_var 2)) (pe_bltn rfl t.z_ValueError PyProof.Rows.Boot.«ValueError» (v := .ty "ValueError") rfl) (fun _ h => h) t.v_rows.isV)))))) (dss_one (ds_ret de_bl)) dss_nil)
    (dss_one (ds_if (dt_cmp (op_neD ck.hu) os_ne (de_call ck (h__law_kinds t) (da_cons (de_ixE (de_var 1) (de_var 2)) da_nil)) (de_lc ck (di_range1 (de_lenE t.z_len (de_var 1)) t.z_range) (blkOk_by (own := [("other", 6)]) (by kernel_rfl)) (fun _ _ _ _ _ => (dg_name 6 ck.nd)) (fun _ _ _ _ _ ck => dc_nil) (fun _ _ _ _ _ ck => (de_cmp (op_eqD ck.hu) os_eq (de_var 6) (de_var 2))))) (dss_one (ds_ret de_bl)) dss_nil))))
    (dss_cons (ds_if (dt_w (dw_or (dt_cmp (op_neD ck.hu) os_ne (de_call ck (h__law_kinds t) (da_cons (de_exc1 t.x_WalkError) da_nil)) (de_op op_mulA os_mul (de_lst (da_cons de_bl da_nil)) de_int)) (dw_or1 (dt_not (dt_val (de_isV t.z_isinstance (de_exc1 t.x_WalkError) (pe_bltn rfl t.z_ValueError PyProof.Rows.Boot.«ValueError» (v := .ty "ValueError") rfl) (fun _ h => h) t.v_rows.isV)))))) (dss_one (ds_ret de_bl)) dss_nil)
    (dss_cons (ds_for ck hp (di_seq (de_op op_addA os_add (de_lst (da_cons de_int da_nil)) (de_lc ck (di_seq (de_var 0)) (blkOk_by (own := [("one", 4)]) (by kernel_rfl)) (fun _ _ _ _ _ => (dg_name 4 ck.nd)) (fun _ _ _ _ _ ck => (dc_one (dt_chain op_lt os_cmpI op_lt os_cmpI (de_op op_subA os_sub de_int (de_op op_pow os_pow de_int de_int)) (de_var 4) (de_op op_pow os_pow de_int de_int)))) (fun _ _ _ _ _ ck => (de_var 4))))) (dg_name 3 ck.nd) (dss_one (ds_if (dt_cmp (op_neD ck.hu) os_ne (de_lim t.tm.lim (de_newX ck t.tm.tm (de_var 3))) (de_var 3)) (dss_one (ds_ret de_bl)) dss_nil)))
    (dss_one (ds_ret (de_cmp (op_eqD ck.hu) os_eq (de_lcE ck (de_call0 ck (h__law_plain t)) (blkOk_by (own := [("e", 5)]) (by kernel_rfl)) (fun _ _ _ _ _ => pg_name ck.nd rfl (by first | exact Or.inl rfl | exact Or.inr rfl) (by first | exact Or.inl rfl | exact Or.inr rfl)) (fun _ _ _ _ _ ck => (de_strX ck t.z_str (de_var 5) t.v_rows.str))) (de_op op_mulA os_mul (de_lst (da_cons de_str da_nil)) de_int))))))))
end
end Wlk

set_option linter.all false
set_option Elab.async false
set_option maxRecDepth 100000
set_option maxHeartbeats 0
/-! The head (printed by gen.py). -/
namespace Hd
open PySem PySem.Spec PyProof.Rows L2 Mi L3 Mir Wlk
def D__law_plain : He.DefD := ⟨("_law_plain", none), "_law_plain", "_law_plain", defArgs (topS 19), defBody (topS 19), defScope (topS 19), [], []⟩
def D__law_kinds : He.DefD := ⟨("_law_kinds", none), "_law_kinds", "_law_kinds", defArgs (topS 20), defBody (topS 20), defScope (topS 20), [], []⟩
def D_law : He.DefD := ⟨("law", none), "law", "law", defArgs (topS 21), defBody (topS 21), defScope (topS 21), [], []⟩
def fn : List He.DefD := ([D__law_plain, D__law_kinds, D_law] : List He.DefD)
def pr : List PrD := []
def Q_TooMany : QrD := ⟨"TooMany", "TooMany.__init__", defArgs (clsM 17 0), defBody (clsM 17 0), defScope (clsM 17 0)⟩
def qr : List QrD := [Q_TooMany]
def fa : List He.Fa := ([.glo "_law_plain", .glo "_law_kinds", .glo "law", .glo "InvalidChange", .glo "InvalidPiece", .glo "InvalidStatement", .glo "InvalidWorth", .glo "InvalidNumber", .glo "InvalidOrder", .glo "InvalidPrices", .glo "InvalidPairs", .glo "InvalidText", .glo "InvalidIndex", .glo "InvalidRow", .glo "InvalidTable", .glo "Unlike", .glo "Done", .glo "NothingToUndo", .glo "TooMany", .glo "WalkError"] : List He.Fa) ++ ([.free "ValueError", .free "isinstance", .free "len", .free "range", .free "str", .free "super", .exc "WalkError", .exc "InvalidChange", .exc "InvalidPiece", .exc "InvalidStatement", .exc "InvalidWorth", .exc "InvalidNumber", .exc "InvalidOrder", .exc "InvalidPrices", .exc "InvalidPairs", .exc "InvalidText", .exc "InvalidIndex", .exc "InvalidRow", .exc "InvalidTable", .exc "Unlike"] : List He.Fa) ++ ([.exc "Done", .exc "NothingToUndo"] : List He.Fa)
def lamd : List Str := ["law"]
def ex (K : PySem.W.Frag) : Bool := (noLists K && (apartB K lamd && (vRowsB K && ownB K "TooMany" "TooMany.__init__" (PySem.Challenge.rw_metagain_k19_classes_of_errors.prog.main.file : Str))))
def loose : List Str := (["WalkError", "InvalidChange", "InvalidPiece", "InvalidStatement", "InvalidWorth", "InvalidNumber", "InvalidOrder", "InvalidPrices", "InvalidPairs", "InvalidText", "InvalidIndex", "InvalidRow", "InvalidTable", "Unlike", "Done", "NothingToUndo", "TooMany", "_law_plain", "_law_kinds"] : List Str)
abbrev R : PySem.W.OpenRow := PySem.W.OpenLaw.row PySem.Challenge.rw_metagain_k19_classes_of_errors
abbrev hk : PySem.W.Hook := hookQ 4 fa fn [] [("law", none)] ex pr qr
def ob (s : PySem.W.SharedT) : AlQ := obsQ 4 fa fn [] [("law", none)] ex pr qr (HandSHeadRun.getT s)
theorem ob_eq (s : PySem.W.SharedT) : ob s = hk.obs s.abs := obsQ_eq (HandSHeadRun.getT_eq s)
theorem run (w : World) : HandSHeadRun.RunEq R (PySem.W.view R.prog [21]) hk ob 9000 loose w := by
  intro os
  kernel_rfl

section
variable {K : PySem.W.Frag} {mg : Str → Option Value} {h : Heap} {w : World}
theorem txt (X : K.In h) (G : h.Ns mainGlobals mg) (cq : SaysQ fa fn [] [("law", none)] ex pr qr w h K) (c : He.SaysD fa fn K) (cp : SaysP fa fn [] [("law", none)] ex pr w h K) (ha : apartB K lamd = true) (mv : vRowsB K = true) (mtm : ownB K "TooMany" "TooMany.__init__" (PySem.Challenge.rw_metagain_k19_classes_of_errors.prog.main.file : Str) = true) : Txt PySem.Challenge.rw_metagain_k19_classes_of_errors.prog K mg := by
  have gx : ∀ y ∈ ownCls, mg y = some (.ref (He.ga K y)) := fun y hy => by
    simp only [ownCls, List.mem_cons, List.not_mem_nil, or_false] at hy
    rcases hy with rfl | rfl | rfl | rfl | rfl | rfl | rfl | rfl | rfl | rfl | rfl | rfl | rfl | rfl | rfl | rfl
    · exact (He.glo_ok X G (c.fact 3 (f := .glo "InvalidChange") rfl))
    · exact (He.glo_ok X G (c.fact 4 (f := .glo "InvalidPiece") rfl))
    · exact (He.glo_ok X G (c.fact 5 (f := .glo "InvalidStatement") rfl))
    · exact (He.glo_ok X G (c.fact 6 (f := .glo "InvalidWorth") rfl))
    · exact (He.glo_ok X G (c.fact 7 (f := .glo "InvalidNumber") rfl))
    · exact (He.glo_ok X G (c.fact 8 (f := .glo "InvalidOrder") rfl))
    · exact (He.glo_ok X G (c.fact 9 (f := .glo "InvalidPrices") rfl))
    · exact (He.glo_ok X G (c.fact 10 (f := .glo "InvalidPairs") rfl))
    · exact (He.glo_ok X G (c.fact 11 (f := .glo "InvalidText") rfl))
    · exact (He.glo_ok X G (c.fact 12 (f := .glo "InvalidIndex") rfl))
    · exact (He.glo_ok X G (c.fact 13 (f := .glo "InvalidRow") rfl))
    · exact (He.glo_ok X G (c.fact 14 (f := .glo "InvalidTable") rfl))
    · exact (He.glo_ok X G (c.fact 15 (f := .glo "Unlike") rfl))
    · exact (He.glo_ok X G (c.fact 16 (f := .glo "Done") rfl))
    · exact (He.glo_ok X G (c.fact 17 (f := .glo "NothingToUndo") rfl))
    · exact (He.glo_ok X G (c.fact 18 (f := .glo "TooMany") rfl))
  exact {
    d__law_plain := by
      obtain ⟨fd, F⟩ := c.def_ 0 (d := D__law_plain) rfl
      exact ⟨⟨_, fd, _, _, F, (He.glo_ok X G (c.fact 0 (f := .glo "_law_plain") rfl)), F.bindsN fun _ _ _ _ _ _ us hl => match us, hl with | [], _ => rfl⟩⟩
    d__law_kinds := by
      obtain ⟨fd, F⟩ := c.def_ 1 (d := D__law_kinds) rfl
      exact ⟨⟨_, fd, _, _, F, (He.glo_ok X G (c.fact 1 (f := .glo "_law_kinds") rfl)), F.bindsN fun _ _ _ _ _ _ us hl => match us, hl with | [_], _ => rfl⟩⟩
    o_InvalidChange := ⟨_, (He.glo_ok X G (c.fact 3 (f := .glo "InvalidChange") rfl))⟩
    o_InvalidPiece := ⟨_, (He.glo_ok X G (c.fact 4 (f := .glo "InvalidPiece") rfl))⟩
    o_InvalidStatement := ⟨_, (He.glo_ok X G (c.fact 5 (f := .glo "InvalidStatement") rfl))⟩
    o_InvalidWorth := ⟨_, (He.glo_ok X G (c.fact 6 (f := .glo "InvalidWorth") rfl))⟩
    o_InvalidNumber := ⟨_, (He.glo_ok X G (c.fact 7 (f := .glo "InvalidNumber") rfl))⟩
    o_InvalidOrder := ⟨_, (He.glo_ok X G (c.fact 8 (f := .glo "InvalidOrder") rfl))⟩
    o_InvalidPrices := ⟨_, (He.glo_ok X G (c.fact 9 (f := .glo "InvalidPrices") rfl))⟩
    o_InvalidPairs := ⟨_, (He.glo_ok X G (c.fact 10 (f := .glo "InvalidPairs") rfl))⟩
    o_InvalidText := ⟨_, (He.glo_ok X G (c.fact 11 (f := .glo "InvalidText") rfl))⟩
    o_InvalidIndex := ⟨_, (He.glo_ok X G (c.fact 12 (f := .glo "InvalidIndex") rfl))⟩
    o_InvalidRow := ⟨_, (He.glo_ok X G (c.fact 13 (f := .glo "InvalidRow") rfl))⟩
    o_InvalidTable := ⟨_, (He.glo_ok X G (c.fact 14 (f := .glo "InvalidTable") rfl))⟩
    o_Unlike := ⟨_, (He.glo_ok X G (c.fact 15 (f := .glo "Unlike") rfl))⟩
    o_Done := ⟨_, (He.glo_ok X G (c.fact 16 (f := .glo "Done") rfl))⟩
    o_NothingToUndo := ⟨_, (He.glo_ok X G (c.fact 17 (f := .glo "NothingToUndo") rfl))⟩
    o_TooMany := ⟨_, (He.glo_ok X G (c.fact 18 (f := .glo "TooMany") rfl))⟩
    o_WalkError := ⟨_, (He.glo_ok X G (c.fact 19 (f := .glo "WalkError") rfl))⟩
    v_rows := vRows_ok mv (He.glo_ok X G (c.fact 19 (f := .glo "WalkError") rfl)) gx
    tm := by
      obtain ⟨T, iC, tI, xf, ox⟩ := tmF_of (P := PySem.Challenge.rw_metagain_k19_classes_of_errors.prog) (d := Q_TooMany) rfl mtm (cq.get 0 (d := Q_TooMany) rfl) rfl (by kernel_rfl)
      exact ⟨He.ga K "TooMany", _, _, _, _, _, _, _, "too many", (He.glo_ok X G (c.fact 18 (f := .glo "TooMany") rfl)), He.free_ok X G (c.fact 25 (f := .free "super") rfl), T, ⟨_, _, _, _, _, _, _, _, _, _, _, rfl, fun env he => ⟨⟨_, rfl⟩, by first | rfl | (unfold interactive; rw [he]; rfl), rfl, rfl⟩⟩, ⟨rfl, rfl, rfl, by decide +kernel, rfl, rfl, rfl, rfl, _, rfl, rfl⟩, iC, tI, xf, fun kV doc pm an cdv ct cc us hl => match us, hl with | [_, _], _ => rfl⟩
    z_ValueError := He.free_ok X G (c.fact 20 (f := .free "ValueError") rfl)
    z_isinstance := He.free_ok X G (c.fact 21 (f := .free "isinstance") rfl)
    z_len := He.free_ok X G (c.fact 22 (f := .free "len") rfl)
    z_range := He.free_ok X G (c.fact 23 (f := .free "range") rfl)
    z_str := He.free_ok X G (c.fact 24 (f := .free "str") rfl)
    z_super := He.free_ok X G (c.fact 25 (f := .free "super") rfl)
    x_WalkError := ownEx_ok (c.fact 26 (f := .exc "WalkError") rfl) (He.glo_ok X G (c.fact 19 (f := .glo "WalkError") rfl))
    x_InvalidChange := ownEx_ok (c.fact 27 (f := .exc "InvalidChange") rfl) (He.glo_ok X G (c.fact 3 (f := .glo "InvalidChange") rfl))
    x_InvalidPiece := ownEx_ok (c.fact 28 (f := .exc "InvalidPiece") rfl) (He.glo_ok X G (c.fact 4 (f := .glo "InvalidPiece") rfl))
    x_InvalidStatement := ownEx_ok (c.fact 29 (f := .exc "InvalidStatement") rfl) (He.glo_ok X G (c.fact 5 (f := .glo "InvalidStatement") rfl))
    x_InvalidWorth := ownEx_ok (c.fact 30 (f := .exc "InvalidWorth") rfl) (He.glo_ok X G (c.fact 6 (f := .glo "InvalidWorth") rfl))
    x_InvalidNumber := ownEx_ok (c.fact 31 (f := .exc "InvalidNumber") rfl) (He.glo_ok X G (c.fact 7 (f := .glo "InvalidNumber") rfl))
    x_InvalidOrder := ownEx_ok (c.fact 32 (f := .exc "InvalidOrder") rfl) (He.glo_ok X G (c.fact 8 (f := .glo "InvalidOrder") rfl))
    x_InvalidPrices := ownEx_ok (c.fact 33 (f := .exc "InvalidPrices") rfl) (He.glo_ok X G (c.fact 9 (f := .glo "InvalidPrices") rfl))
    x_InvalidPairs := ownEx_ok (c.fact 34 (f := .exc "InvalidPairs") rfl) (He.glo_ok X G (c.fact 10 (f := .glo "InvalidPairs") rfl))
    x_InvalidText := ownEx_ok (c.fact 35 (f := .exc "InvalidText") rfl) (He.glo_ok X G (c.fact 11 (f := .glo "InvalidText") rfl))
    x_InvalidIndex := ownEx_ok (c.fact 36 (f := .exc "InvalidIndex") rfl) (He.glo_ok X G (c.fact 12 (f := .glo "InvalidIndex") rfl))
    x_InvalidRow := ownEx_ok (c.fact 37 (f := .exc "InvalidRow") rfl) (He.glo_ok X G (c.fact 13 (f := .glo "InvalidRow") rfl))
    x_InvalidTable := ownEx_ok (c.fact 38 (f := .exc "InvalidTable") rfl) (He.glo_ok X G (c.fact 14 (f := .glo "InvalidTable") rfl))
    x_Unlike := ownEx_ok (c.fact 39 (f := .exc "Unlike") rfl) (He.glo_ok X G (c.fact 15 (f := .glo "Unlike") rfl))
    x_Done := ownEx_ok (c.fact 40 (f := .exc "Done") rfl) (He.glo_ok X G (c.fact 16 (f := .glo "Done") rfl))
    x_NothingToUndo := ownEx_ok (c.fact 41 (f := .exc "NothingToUndo") rfl) (He.glo_ok X G (c.fact 17 (f := .glo "NothingToUndo") rfl)) }
theorem at_law {mg : Str → Option Value} {fa0 : Addr} (X : K.In h) (G : h.Ns mainGlobals mg) (cq : SaysQ fa fn [] [("law", none)] ex pr qr w h K) (hfa : mg "law" = some (.ref fa0))
    (pure : ∀ ns : List Int, ns.length ≤ 63 → (∀ z ∈ ns, Builtin.Int.intBits z ≤ 1048576) → g_law [.d (.list (ns.map .int))] [] = .ok (.d (.bool true)) []) : LamX.LawAtS PySem.Challenge.rw_metagain_k19_classes_of_errors w K (L2N.CX PySem.Challenge.rw_metagain_k19_classes_of_errors.prog w) 3 63 "script" mg fa0 h := by
  have c := cq.x.x
  have cd := c.t.d
  have hm := c.more
  unfold ex at hm
  simp only [Bool.and_eq_true] at hm
  obtain ⟨hn, ha, mv, mtm⟩ := hm
  obtain rfl : fa0 = He.ga K "law" := by
    have z := hfa.symm.trans (He.glo_ok X G (cd.fact 2 (f := .glo "law") rfl))
    injection z with z
    injection z
  obtain ⟨fd, F⟩ := cd.def_ 2 (d := D_law) rfl
  have tt := txt X G cq cd cq.x ha mv mtm
  refine law_atL (ds := lamd) (st := topS 21) (kws := []) X G c (He.glo_ok X G (cd.fact 2 (f := .glo "law") rfl)) hfa F (fun _ _ _ _ _ _ us hl => match us, hl with | [_], _ => rfl) hn ha (fun base LC hb => ?_) pure
  exact ok_law tt (by exact {
    l_none := trivial }) ((LC "law" (by decide)).defL (He.glo_ok X G (cd.fact 2 (f := .glo "law") rfl)) F hb)
end
end Hd

set_option linter.all false
set_option Elab.async false
set_option maxRecDepth 100000
/-! The mirror's words, run by simp. -/
namespace Mi
open PySem
section
variable (ρ : Env) (μ : Sto)
@[simp] theorem x_eVar (i : Nat) : eVar i ρ μ = (match ρ[i]? with | some (some w) => .ok w μ | _ => .no) := rfl
@[simp] theorem x_eC (d : D) : eC d ρ μ = .ok (.d d) μ := rfl
@[simp] theorem x_eInt (i : Int) : eInt i ρ μ = .ok (.d (.int i)) μ := rfl
@[simp] theorem x_eStr (i : Str) : eStr i ρ μ = .ok (.d (.str i)) μ := rfl
@[simp] theorem x_eBl (i : Bool) : eBl i ρ μ = .ok (.d (.bool i)) μ := rfl
@[simp] theorem x_eNon : eNon ρ μ = .ok (.d .none) μ := rfl
@[simp] theorem x_eYes : eYes ρ μ = .ok (.d (.bool true)) μ := rfl
@[simp] theorem x_eFn (x : Str) : eFn x ρ μ = .ok (.f x) μ := rfl
@[simp] theorem x_eOp (op : D → D → Option D) (f g : EF) : eOp op f g ρ μ = (f ρ μ).bind fun a μ1 => (g ρ μ1).bind fun b μ2 => ofO ((view μ2 a).bind fun x => (view μ2 b).bind fun y => (op x y).map W.d) μ2 := rfl
@[simp] theorem x_eUn (op : D → Option D) (f : EF) : eUn op f ρ μ = (f ρ μ).bind fun a μ1 => ofO ((view μ1 a).bind fun x => (op x).map W.d) μ1 := rfl
@[simp] theorem x_aNil : aNil ρ μ = .ok [] μ := rfl
@[simp] theorem x_aCons (f : EF) (r : AF) : aCons f r ρ μ = (f ρ μ).bind fun a μ1 => (r ρ μ1).bind fun as μ2 => .ok (a :: as) μ2 := rfl
@[simp] theorem x_eTup (a : AF) : eTup a ρ μ = (a ρ μ).bind fun ws μ1 => ofO ((asDs ws).map fun ds => W.d (.tuple ds)) μ1 := rfl
@[simp] theorem x_eLst (a : AF) : eLst a ρ μ = (a ρ μ).bind fun ws μ1 => ofO ((asDs ws).map fun ds => W.d (.list ds)) μ1 := rfl
@[simp] theorem x_eLstM (a : AF) : eLstM a ρ μ = (a ρ μ).bind fun ws μ1 => (match asDs ws with | some ds => .ok (.m μ1.length) (μ1 ++ [some (.lst ds)]) | none => .no) := rfl
@[simp] theorem x_eCall (g : GF) (a : AF) : eCall g a ρ μ = (a ρ μ).bind g := rfl
@[simp] theorem x_eBlt (h : List D → Option D) (a : AF) : eBlt h a ρ μ = (a ρ μ).bind fun ws μ1 => ofO ((views μ1 ws).bind fun ds => (h ds).map W.d) μ1 := rfl
@[simp] theorem x_eAnd (f g : EF) : eAnd f g ρ μ = (f ρ μ).test fun b μ1 => if b = true then g ρ μ1 else .ok (.d (.bool false)) μ1 := rfl
@[simp] theorem x_eOr (f g : EF) : eOr f g ρ μ = (f ρ μ).test fun b μ1 => if b = true then .ok (.d (.bool true)) μ1 else g ρ μ1 := rfl
@[simp] theorem x_eNot (f : EF) : eNot f ρ μ = (f ρ μ).test fun b μ1 => .ok (.d (.bool (!b))) μ1 := rfl
@[simp] theorem x_eIf (c f g : EF) : eIf c f g ρ μ = (c ρ μ).test fun b μ1 => if b = true then f ρ μ1 else g ρ μ1 := rfl
@[simp] theorem x_eChain (op op' : D → D → Option D) (f g h : EF) : eChain op op' f g h ρ μ = (f ρ μ).bind fun a μ1 => (g ρ μ1).bind fun b μ2 =>
  (ofO ((view μ2 a).bind fun x => (view μ2 b).bind fun y => (op x y).map W.d) μ2).test fun k μ3 => if k = true then
    (h ρ μ3).bind fun c μ4 => ofO ((view μ4 b).bind fun x => (view μ4 c).bind fun y => (op' x y).map W.d) μ4
  else .ok (.d (.bool false)) μ3 := rfl
@[simp] theorem x_eIsN (f : EF) : eIsN f ρ μ = (f ρ μ).bind fun a μ1 => .ok (.d (.bool (isNonW a))) μ1 := rfl
@[simp] theorem x_eNotN (f : EF) : eNotN f ρ μ = (f ρ μ).bind fun a μ1 => .ok (.d (.bool (!isNonW a))) μ1 := rfl
@[simp] theorem x_part0 : ePart none ρ μ = .ok none μ := rfl
@[simp] theorem x_part1 (f : EF) : ePart (some f) ρ μ = (f ρ μ).bind fun w μ1 => (match w with | .d (.int i) => .ok (some i) μ1 | _ => .no) := rfl
@[simp] theorem x_eSl (cut : D → Option Int → Option Int → Option D) (f : EF) (lo hi : Option EF) : eSl cut f lo hi ρ μ = (f ρ μ).bind fun a μ1 =>
  (ePart lo ρ μ1).bind fun l μ2 => (ePart hi ρ μ2).bind fun h μ3 => ofO ((view μ3 a).bind fun x => (cut x l h).map W.d) μ3 := rfl
@[simp] theorem x_eNotT (f : EF) : eNotT f ρ μ = (f ρ μ).bind fun a μ1 => ofO ((view μ1 a).bind fun d => ((truD d).map fun b => PyData.bool (!b)).map W.d) μ1 := rfl
@[simp] theorem x_eIsi (t : Ty) (f : EF) : eIsi t f ρ μ = (f ρ μ).bind fun a μ1 => ofO ((view μ1 a).bind fun d => some (W.d (.bool (isTy t d)))) μ1 := rfl
@[simp] theorem x_eM0 (op : Str → Option D) (f : EF) : eM0 op f ρ μ = (f ρ μ).bind fun w μ1 => (match w with | .d (.str a) => ofO ((op a).map W.d) μ1 | _ => .no) := rfl
@[simp] theorem x_eM1 (op : Str → D → Option D) (f g : EF) : eM1 op f g ρ μ = (f ρ μ).bind fun w μ1 => (match w with
  | .d (.str a) => (g ρ μ1).bind fun u μ2 => ofO ((view μ2 u).bind fun y => (op a y).map W.d) μ2
  | _ => .no) := rfl
@[simp] theorem x_eTry (nm : Exn → Option Str) (f : EF) : eTry nm f ρ μ = (match f ρ μ with | .ok _ μ1 => .ok (.d (.str "")) μ1 | .er x μ1 => ofO ((nm x).map fun s => W.d (.str s)) μ1 | .no => .no) := rfl
@[simp] theorem x_eLc (vs : List Nat) (t : TF) (it : IF) (c e : EF) : eLc vs t it c e ρ μ = (it ρ μ).bind fun l μ1 => lcL t c e (wipeE ρ vs) l [] μ1 := rfl
@[simp] theorem x_eApp (f e : EF) : eApp f e ρ μ = (f ρ μ).bind fun w μ1 => (match w with
  | .m k => (match mlist μ1 k with
    | some _ => (e ρ μ1).bind fun u μ2 => (match u, mlist μ2 k with
      | .d d, some l => if l.length < LIM then .ok (.d .none) (μ2.set k (some (.lst (l ++ [d])))) else .no
      | _, _ => .no)
    | none => .no)
  | _ => .no) := rfl
@[simp] theorem x_iSeq (f : EF) : iSeq f ρ μ = (f ρ μ).bind fun w μ1 => (match w with | .d d => ofO (items d) μ1 | _ => .no) := rfl
@[simp] theorem x_iRange1 (f : EF) : iRange1 f ρ μ = (f ρ μ).bind fun w μ1 => (match w with | .d (.int b) => if -(LIM : Int) ≤ b ∧ b ≤ LIM then .ok (rangeD 0 b) μ1 else .no | _ => .no) := rfl
@[simp] theorem x_eLRg (it : IF) : eLRg it ρ μ = (it ρ μ).bind fun l μ1 => .ok (.d (.list l)) μ1 := rfl
@[simp] theorem x_eLm (op : List D → D → Option D) (f g : EF) : eLm op f g ρ μ = (f ρ μ).bind fun a μ1 => (match a with
  | .d (.list l) => (g ρ μ1).bind fun b μ2 => ofO ((view μ2 b).bind fun y => (op l y).map W.d) μ2
  | _ => .no) := rfl
@[simp] theorem x_iRange2 (f g : EF) : iRange2 f g ρ μ = (f ρ μ).bind fun w μ1 => (g ρ μ1).bind fun u μ2 => (match w, u with
  | .d (.int a), .d (.int b) => if -(LIM : Int) ≤ a ∧ a ≤ LIM ∧ -(LIM : Int) ≤ b ∧ b ≤ LIM then .ok (rangeD a b) μ2 else .no
  | _, _ => .no) := rfl
@[simp] theorem x_iEnumD (f : EF) : iEnumD f ρ μ = (f ρ μ).bind fun w μ1 => (match w with
  | .d (.tuple l) => if l.length ≤ LIM then .ok (enumD l) μ1 else .no
  | .d (.list l) => if l.length ≤ LIM then .ok (enumD l) μ1 else .no
  | _ => .no) := rfl
@[simp] theorem x_eLenSet (f : EF) : eLenSet f ρ μ = (f ρ μ).bind fun w μ1 => (match w with
  | .d (.list l) => (match boolsL l with
    | some bs => if bs.length ≤ 1000 then .ok (.d (.int (cntB bs : Nat))) μ1 else .no
    | none => .no)
  | _ => .no) := rfl
@[simp] theorem x_eCatM (f g : EF) : eCatM f g ρ μ = (f ρ μ).bind fun a μ1 => (g ρ μ1).bind fun b μ2 => (match view μ2 a, view μ2 b with
  | some (.list x), some (.list y) => if x.length + y.length ≤ LIM then .ok (.m μ2.length) (μ2 ++ [some (.lst (x ++ y))]) else .no
  | _, _ => .no) := rfl
@[simp] theorem x_eCallV (i : Nat) (gs : List (Str × GF)) (a : AF) : eCallV i gs a ρ μ = (match ρ[i]? with
  | some (some (.f x)) => (match gs.lookup x with | some g => (a ρ μ).bind g | none => .no)
  | _ => .no) := rfl
@[simp] theorem x_eLcW (vs : List Nat) (i : Nat) (r : AF) (e : EF) : eLcW vs i r e ρ μ = (r ρ μ).bind fun ws μ1 => lcW i e (wipeE ρ vs) ws [] μ1 := rfl
/-! statements -/
@[simp] theorem x_sNil : sNil ρ μ = .nx ρ μ := rfl
@[simp] theorem x_sSeq (F G : SF) : sSeq F G ρ μ = (match F ρ μ with | .nx ρ1 μ1 => G ρ1 μ1 | r => r) := rfl
@[simp] theorem x_sAsg (i : Nat) (f : EF) : sAsg i f ρ μ = (f ρ μ).bindS fun w μ1 => .nx (ρ.set i (some w)) μ1 := rfl
@[simp] theorem x_sPar (i j : Nat) (f g : EF) : sPar i j f g ρ μ = (f ρ μ).bindS fun w μ1 => (g ρ μ1).bindS fun u μ2 => .nx ((ρ.set i (some w)).set j (some u)) μ2 := rfl
@[simp] theorem x_tName (i : Nat) (d : D) : tName i d ρ = some (ρ.set i (some (.d d))) := rfl
@[simp] theorem x_tTups0 : tTups [] [] ρ = some ρ := rfl
@[simp] theorem x_tTups1 (t : TF) (ts : List TF) (d : D) (ds : List D) : tTups (t :: ts) (d :: ds) ρ = (t d ρ).bind fun ρ1 => tTups ts ds ρ1 := rfl
@[simp] theorem x_tTup (ts : List TF) (ds : List D) : tTup ts (.tuple ds) ρ = tTups ts ds ρ := rfl
@[simp] theorem x_tUnl (ts : List TF) (ds : List D) : tUnl ts (.list ds) ρ = tTups ts ds ρ := rfl
@[simp] theorem x_sTgt (t : TF) (f : EF) : sTgt t f ρ μ = (f ρ μ).bindS fun w μ1 => (match w with | .d d => (match t d ρ with | some ρ1 => .nx ρ1 μ1 | none => .no) | _ => .no) := rfl
@[simp] theorem x_sDrop (f : EF) : sDrop f ρ μ = (f ρ μ).bindS fun _ μ1 => .nx ρ μ1 := rfl
@[simp] theorem x_sRet (f : EF) : sRet f ρ μ = (f ρ μ).bindS fun w μ1 => .rt w μ1 := rfl
@[simp] theorem x_sRetF (f : EF) : sRetF f ρ μ = (f ρ μ).bindS fun w μ1 => (match view μ1 w with | some d => .rt (.d d) (match w with | .m k => μ1.set k none | _ => μ1) | none => .no) := rfl
@[simp] theorem x_sIf (c : EF) (F G : SF) : sIf c F G ρ μ = RS.test (c ρ μ) fun b μ1 => if b = true then F ρ μ1 else G ρ μ1 := rfl
@[simp] theorem x_sFrz (i : Nat) : sFrz i ρ μ = (match ρ[i]? with
  | some (some (.m k)) => (match mlist μ k with | some l => .nx (ρ.set i (some (.d (.list l)))) (μ.set k none) | none => .no)
  | _ => .no) := rfl
@[simp] theorem x_sBreak : sBreak ρ μ = .bk ρ μ := rfl
@[simp] theorem x_sCont : sCont ρ μ = .ct ρ μ := rfl
@[simp] theorem x_sRaise (x : Str) : sRaise x ρ μ = .er ⟨x, none⟩ μ := rfl
@[simp] theorem x_sFor (t : TF) (it : IF) (B : SF) : sFor t it B ρ μ = (it ρ μ).bindS fun l μ1 => forL t B l ρ μ1 := rfl
@[simp] theorem x_sSub (o i e : EF) : sSub o i e ρ μ = (e ρ μ).bindS fun u μ1 => (o ρ μ1).bindS fun w μ2 => (i ρ μ2).bindS fun j μ3 => (match u, w, j with
  | .d d, .m k, .d (.int n) => (match mlist μ3 k with
    | some l => (match ixI l.length n with
      | some p => .nx ρ (μ3.set k (some (.lst (l.set p d))))
      | none => .no)
    | none => .no)
  | _, _, _ => .no) := rfl
end
@[simp] theorem x_test_er {x : Exn} {μ : Sto} (f : Bool → Sto → RS) : RS.test (R.er x μ) f = .er x μ := rfl
@[simp] theorem x_view_m (μ : Sto) (k : Nat) : view μ (.m k) = (mlist μ k).map .list := rfl
@[simp] theorem x_views0 (μ : Sto) : views μ [] = some [] := rfl
@[simp] theorem x_views1 (μ : Sto) (w : W) (r : List W) : views μ (w :: r) = (view μ w).bind fun d => (views μ r).map (d :: ·) := rfl
@[simp] theorem x_isN1 : isNonW (.d .none) = true := rfl
@[simp] theorem x_isN2 (i : Int) : isNonW (.d (.int i)) = false := rfl
@[simp] theorem x_isN3 (i : List D) : isNonW (.d (.tuple i)) = false := rfl
@[simp] theorem x_isN4 (i : List D) : isNonW (.d (.list i)) = false := rfl
@[simp] theorem x_isN5 (i : Str) : isNonW (.d (.str i)) = false := rfl
@[simp] theorem x_isN6 (i : Bool) : isNonW (.d (.bool i)) = false := rfl
@[simp] theorem x_startE (n : Nat) (ws : List W) : startE n ws = ws.map some ++ List.replicate (n - ws.length) none := rfl
@[simp] theorem x_addI (a b : Int) : dAdd (.int a) (.int b) = some (.int (a + b)) := rfl
@[simp] theorem x_subI (a b : Int) : dSub (.int a) (.int b) = some (.int (a - b)) := rfl
@[simp] theorem x_negI (a : Int) : dNeg (.int a) = some (.int (-a)) := rfl
@[simp] theorem x_ltI (a b : Int) : dLt (.int a) (.int b) = some (.bool (decide (a < b))) := rfl
@[simp] theorem x_leI (a b : Int) : dLe (.int a) (.int b) = some (.bool (decide (a ≤ b))) := rfl
@[simp] theorem x_gtI (a b : Int) : dGt (.int a) (.int b) = some (.bool (decide (b < a))) := rfl
@[simp] theorem x_geI (a b : Int) : dGe (.int a) (.int b) = some (.bool (decide (b ≤ a))) := rfl
theorem x_modI {a b : Int} (h : 0 < b) : dMod (.int a) (.int b) = some (.int (a % b)) := if_pos h
theorem x_divI {a b : Int} (h : 0 < b) (h2 : b < 2 ^ 1000) : dDiv (.int a) (.int b) = some (.int (a / b)) := if_pos ⟨h, h2⟩
theorem x_modN {a b : Int} (h : b < 0) : dMod (.int a) (.int b) = some (.int (a.fmod b)) := by
  show (if 0 < b then _ else _) = _
  rw [if_neg (by omega), if_pos h]
theorem x_divN {a b : Int} (h : b < 0) (h2 : b.natAbs < 2 ^ 1000) : dDiv (.int a) (.int b) = some (.int (a.fdiv b)) := by
  show (if divOk b then _ else _) = _
  rw [if_neg (fun hk => by have := hk.1; omega), if_pos ⟨h, h2⟩]
theorem x_mulI {a b : Int} (h : mulOk a b) : dMul (.int a) (.int b) = some (.int (a * b)) := if_pos h
theorem mulOk_l {a b : Int} (h : a.natAbs < 2 ^ 64) : mulOk a b := .inl (.inl h)
theorem mulOk_r {a b : Int} (h : b.natAbs < 2 ^ 64) : mulOk a b := .inl (.inr h)
@[simp] theorem x_int1 (a : Int) : bInt [.int a] = some (.int a) := rfl
theorem x_fin (n : Nat) (d : D) (μ : Sto) (h : μ.length = n) : fin n (.rt (.d d) μ) = .ok (.d d) μ := by
  simp [fin, List.take_of_length_le (Nat.le_of_eq h)]
theorem fnOf_eq {p n : Nat} {F : SF} {ws : List W} {μ : Sto} (h : ws.length = p) : fnOf p n F ws μ = fin μ.length (F (ws.map some ++ List.replicate (n - ws.length) none) μ) := if_pos h
theorem fnOf1 (n : Nat) (F : SF) (a : W) (μ : Sto) : fnOf 1 n F [a] μ = fin μ.length (F (some a :: List.replicate (n - 1) none) μ) := rfl
theorem fnOf2 (n : Nat) (F : SF) (a b : W) (μ : Sto) : fnOf 2 n F [a, b] μ = fin μ.length (F (some a :: some b :: List.replicate (n - 2) none) μ) := rfl
theorem fnOf3 (n : Nat) (F : SF) (a b c : W) (μ : Sto) : fnOf 3 n F [a, b, c] μ = fin μ.length (F (some a :: some b :: some c :: List.replicate (n - 3) none) μ) := rfl
@[simp] theorem x_rangeD_len (a b : Int) : (rangeD a b).length = (b - a).toNat := by simp [rangeD]
/-! loops -/
/-- a loop that goes on and on, what holds kept -/
theorem forL_keep {t : TF} {B : SF} (I : Env → Sto → Prop) : ∀ (l : List D) (ρ : Env) (μ : Sto), I ρ μ →
    (∀ d ∈ l, ∀ ρ μ, I ρ μ → ∃ ρ1, t d ρ = some ρ1 ∧ ∃ ρ2 μ2, B ρ1 μ = .nx ρ2 μ2 ∧ I ρ2 μ2) → ∃ ρ' μ', forL t B l ρ μ = .nx ρ' μ' ∧ I ρ' μ'
  | [], ρ, μ, h, _ => ⟨ρ, μ, rfl, h⟩
  | d :: r, ρ, μ, h, st => by
    obtain ⟨ρ1, e1, ρ2, μ2, e2, h2⟩ := st d List.mem_cons_self ρ μ h
    obtain ⟨ρ', μ', e3, h3⟩ := forL_keep I r ρ2 μ2 h2 fun d hd => st d (List.mem_cons_of_mem _ hd)
    exact ⟨ρ', μ', by unfold forL; rw [e1]; dsimp only; rw [e2]; exact e3, h3⟩
/-- .. told by how many have been walked -/
theorem forL_count {t : TF} {B : SF} (I : Nat → Env → Sto → Prop) (n : Nat) : ∀ (l : List D) (i : Nat) (ρ : Env) (μ : Sto), i + l.length ≤ n → I i ρ μ →
    (∀ i d ρ μ, i < n → d ∈ l → I i ρ μ → ∃ ρ1, t d ρ = some ρ1 ∧ ∃ ρ2 μ2, B ρ1 μ = .nx ρ2 μ2 ∧ I (i + 1) ρ2 μ2) → ∃ ρ' μ', forL t B l ρ μ = .nx ρ' μ' ∧ I (i + l.length) ρ' μ'
  | [], i, ρ, μ, _, h, _ => ⟨ρ, μ, rfl, h⟩
  | d :: r, i, ρ, μ, hn, h, st => by
    rw [List.length_cons] at hn
    obtain ⟨ρ1, e1, ρ2, μ2, e2, h2⟩ := st i d ρ μ (by omega) List.mem_cons_self h
    obtain ⟨ρ', μ', e3, h3⟩ := forL_count I n r (i + 1) ρ2 μ2 (by omega) h2 fun i e ρ μ hi he => st i e ρ μ hi (List.mem_cons_of_mem _ he)
    exact ⟨ρ', μ', by unfold forL; rw [e1]; dsimp only; rw [e2]; exact e3, by rw [List.length_cons]; rw [show i + (r.length + 1) = i + 1 + r.length by omega]; exact h3⟩
/-- .. told by the list that is left and the walked one -/
theorem forL_upto {t : TF} {B : SF} (I : List D → Env → Sto → Prop) (L : List D) : ∀ (l p : List D) (ρ : Env) (μ : Sto), L = p ++ l → I p ρ μ →
    (∀ p d q ρ μ, L = p ++ d :: q → I p ρ μ → ∃ ρ1, t d ρ = some ρ1 ∧ ∃ ρ2 μ2, B ρ1 μ = .nx ρ2 μ2 ∧ I (p ++ [d]) ρ2 μ2) → ∃ ρ' μ', forL t B l ρ μ = .nx ρ' μ' ∧ I L ρ' μ'
  | [], p, ρ, μ, e, h, _ => ⟨ρ, μ, rfl, by rw [e, List.append_nil]; exact h⟩
  | d :: r, p, ρ, μ, e, h, st => by
    obtain ⟨ρ1, e1, ρ2, μ2, e2, h2⟩ := st p d r ρ μ e h
    obtain ⟨ρ', μ', e3, h3⟩ := forL_upto I L r (p ++ [d]) ρ2 μ2 (by rw [e]; simp) h2 st
    exact ⟨ρ', μ', by unfold forL; rw [e1]; dsimp only; rw [e2]; exact e3, h3⟩
theorem forL_uptoT {α : Type} (f : α → D) {t : TF} {B : SF} (I : List α → Env → Sto → Prop) (L : List α) : ∀ (l p : List α) (ρ : Env) (μ : Sto), L = p ++ l → I p ρ μ →
    (∀ p d q ρ μ, L = p ++ d :: q → I p ρ μ → ∃ ρ1, t (f d) ρ = some ρ1 ∧ ∃ ρ2 μ2, B ρ1 μ = .nx ρ2 μ2 ∧ I (p ++ [d]) ρ2 μ2) → ∃ ρ' μ', forL t B (l.map f) ρ μ = .nx ρ' μ' ∧ I L ρ' μ'
  | [], p, ρ, μ, e, h, _ => ⟨ρ, μ, rfl, by rw [e, List.append_nil]; exact h⟩
  | d :: r, p, ρ, μ, e, h, st => by
    obtain ⟨ρ1, e1, ρ2, μ2, e2, h2⟩ := st p d r ρ μ e h
    obtain ⟨ρ', μ', e3, h3⟩ := forL_uptoT f I L r (p ++ [d]) ρ2 μ2 (by rw [e]; simp) h2 st
    exact ⟨ρ', μ', by rw [List.map_cons]; unfold forL; rw [e1]; dsimp only; rw [e2]; exact e3, h3⟩
/-- a comprehension whose items are told by a map; nothing is changed -/
theorem lc_map {t : TF} {c e : EF} {ρ : Env} {μ : Sto} (y : D → D) : ∀ (l acc : List D), (∀ d ∈ l, ∃ ρ1, t d ρ = some ρ1 ∧ c ρ1 μ = .ok (.d (.bool true)) μ ∧ e ρ1 μ = .ok (.d (y d)) μ) → lcL t c e ρ l acc μ = .ok (.d (.list (acc ++ l.map y))) μ
  | [], acc, _ => by simp [lcL]
  | d :: r, acc, h => by
    obtain ⟨ρ1, e1, e2, e3⟩ := h d List.mem_cons_self
    unfold lcL
    rw [e1]
    dsimp only
    rw [e2]
    dsimp only
    rw [e3]
    dsimp only
    rw [lc_map y r (acc ++ [y d]) fun d hd => h d (List.mem_cons_of_mem _ hd)]
    simp
/-- .. with a test -/
theorem lc_filter {t : TF} {c e : EF} {ρ : Env} {μ : Sto} (p : D → Bool) (y : D → D) : ∀ (l acc : List D), (∀ d ∈ l, ∃ ρ1, t d ρ = some ρ1 ∧ c ρ1 μ = .ok (.d (.bool (p d))) μ ∧ (p d = true → e ρ1 μ = .ok (.d (y d)) μ)) →
    lcL t c e ρ l acc μ = .ok (.d (.list (acc ++ (l.filter p).map y))) μ
  | [], acc, _ => by simp [lcL]
  | d :: r, acc, h => by
    obtain ⟨ρ1, e1, e2, e3⟩ := h d List.mem_cons_self
    unfold lcL
    rw [e1]
    dsimp only
    rw [e2]
    cases hp : p d with
    | true =>
      dsimp only
      rw [e3 hp]
      dsimp only
      rw [lc_filter p y r (acc ++ [y d]) fun d hd => h d (List.mem_cons_of_mem _ hd)]
      simp [hp]
    | false =>
      dsimp only
      rw [lc_filter p y r acc fun d hd => h d (List.mem_cons_of_mem _ hd)]
      simp [hp]
/-- over things that stand for data -/
theorem lc_mapT {α : Type} {t : TF} {c e : EF} {ρ : Env} {μ : Sto} (f : α → D) (g : α → D) : ∀ (l : List α) (acc : List D), (∀ x ∈ l, ∃ ρ1, t (f x) ρ = some ρ1 ∧ c ρ1 μ = .ok (.d (.bool true)) μ ∧ e ρ1 μ = .ok (.d (g x)) μ) →
    lcL t c e ρ (l.map f) acc μ = .ok (.d (.list (acc ++ l.map g))) μ
  | [], acc, _ => by simp [lcL]
  | d :: r, acc, h => by
    obtain ⟨ρ1, e1, e2, e3⟩ := h d List.mem_cons_self
    rw [List.map_cons]
    unfold lcL
    rw [e1]
    dsimp only
    rw [e2]
    dsimp only
    rw [e3]
    dsimp only
    rw [lc_mapT f g r (acc ++ [g d]) fun d hd => h d (List.mem_cons_of_mem _ hd)]
    simp
theorem dEqI (i j : Int) : dEq (.int i) (.int j) = some (.bool (i == j)) := rfl
theorem dNeI (i j : Int) : dNe (.int i) (.int j) = some (.bool (!(i == j))) := rfl
theorem dEqD {a b : D} (ha : SeqAt.shaped a = true) (hb : SeqAt.shaped b = true) : dEq a b = some (.bool (PyData.eqv a b)) := if_pos ⟨ha, hb⟩
theorem dNeD {a b : D} (ha : SeqAt.shaped a = true) (hb : SeqAt.shaped b = true) : dNe a b = some (.bool (!PyData.eqv a b)) := if_pos ⟨ha, hb⟩
theorem dEqS {x y : Str} (ha : SeqAt.shaped (.str x) = true) (hb : SeqAt.shaped (.str y) = true) : dEq (.str x) (.str y) = some (.bool (x == y)) := by rw [dEqD ha hb]; rfl
theorem dNeS {x y : Str} (ha : SeqAt.shaped (.str x) = true) (hb : SeqAt.shaped (.str y) = true) : dNe (.str x) (.str y) = some (.bool (!(x == y))) := by rw [dNeD ha hb]; rfl
theorem canAll_mem : ∀ {l : List D} {x : D}, PyData.canLayAll0 l = true → x ∈ l → x.canLay0 = true
  | y :: r, x, h, hx => by
    rw [PyData.canLayAll0, Bool.and_eq_true] at h
    rcases List.mem_cons.mp hx with rfl | hx
    · exact h.1
    · exact canAll_mem h.2 hx
theorem depth_mem : ∀ {l : List D} {x : D}, x ∈ l → x.depth ≤ PyData.depthAll l
  | y :: r, x, hx => by
    rw [PyData.depthAll]
    rcases List.mem_cons.mp hx with rfl | hx
    · exact Nat.le_max_left _ _
    · exact Nat.le_trans (depth_mem hx) (Nat.le_max_right _ _)
theorem shaped_iff {d : D} : SeqAt.shaped d = true ↔ d.canLay0 = true ∧ d.depth ≤ 64 := by simp [SeqAt.shaped]
theorem shaped_tup {l : List D} (h : SeqAt.shaped (.tuple l) = true) : ∀ x ∈ l, SeqAt.shaped x = true := fun x hx => by
  obtain ⟨h1, h2⟩ := shaped_iff.mp h
  rw [PyData.canLay0] at h1
  rw [PyData.depth] at h2
  exact shaped_iff.mpr ⟨canAll_mem h1 hx, by have := depth_mem hx; omega⟩
theorem shaped_lst {l : List D} (h : SeqAt.shaped (.list l) = true) : ∀ x ∈ l, SeqAt.shaped x = true := fun x hx => by
  obtain ⟨h1, h2⟩ := shaped_iff.mp h
  rw [PyData.canLay0] at h1
  rw [PyData.depth] at h2
  exact shaped_iff.mpr ⟨canAll_mem h1 hx, by have := depth_mem hx; omega⟩
end Mi

set_option linter.all false
set_option Elab.async false
set_option maxRecDepth 100000
set_option maxHeartbeats 2000000
/-! The plain law of the classes of errors. -/
namespace Pure
open PySem Mi Mir
def es16 : List (Str × Xy) := (ownCls.take 15).map (fun c => (c, Xy.msg "m")) ++ [(("TooMany" : Str), Xy.lim (.int 60))]
def A19 : SF := sAsg 1 (eCatE (eCall g__law_plain aNil) (eLstE (aCons (eNewX "TooMany" (eInt 60)) aNil)))
def B19 : SF := sFor (tName 2) (iRange1 (eLenE (eVar 1))) (sSeq (sIf (eOr (eNot (eIsV isTabW (eIxE (eVar 1) (eVar 2)))) (eNot (eIsV (isTab 16) (eIxE (eVar 1) (eVar 2))))) (sRet (eBl false)) sNil)
    (sIf (eOp dNe (eCall g__law_kinds (aCons (eIxE (eVar 1) (eVar 2)) aNil)) (eLc [6] (tName 6) (iRange1 (eLenE (eVar 1))) eYes (eOp dEq (eVar 6) (eVar 2)))) (sRet (eBl false)) sNil))
def C19 : SF := sIf (eOr (eOp dNe (eCall g__law_kinds (aCons (eExc "WalkError" "m") aNil)) (eOp dMul (eLst (aCons (eBl false) aNil)) (eInt 16))) (eNot (eIsV (isTab 16) (eExc "WalkError" "m")))) (sRet (eBl false)) sNil
def I19 : EF := eOp dAdd (eLst (aCons (eInt 40) aNil)) (eLc [4] (tName 4) (iSeq (eVar 0)) (eChain dLt dLt (eOp dSub (eInt 0) (eOp dPow (eInt 10) (eInt 40))) (eVar 4) (eOp dPow (eInt 10) (eInt 40))) (eVar 4))
def L19 : SF := sIf (eOp dNe (eLim "TooMany" (eNewX "TooMany" (eVar 3))) (eVar 3)) (sRet (eBl false)) sNil
def E19 : SF := sRet (eOp dEq (eLcE [5] 5 (eCall g__law_plain aNil) (eStrX (eVar 5))) (eOp dMul (eLst (aCons (eStr "m") aNil)) (eInt 15)))
theorem F_eq : F_law = sSeq A19 (sSeq B19 (sSeq C19 (sSeq (sFor (tName 3) (iSeq I19) L19) E19))) := rfl
theorem a_ok (x : Option W) : A19 [x, none, none, none, none, none, none] [] = .nx [x, some (.es es16), none, none, none, none, none] [] := by kernel_rfl
theorem b_ok (x : Option W) : B19 [x, some (.es es16), none, none, none, none, none] [] = .nx [x, some (.es es16), some (.d (.int 15)), none, none, none, none] [] := by kernel_rfl
theorem c_ok (x : Option W) : C19 [x, some (.es es16), some (.d (.int 15)), none, none, none, none] [] = .nx [x, some (.es es16), some (.d (.int 15)), none, none, none, none] [] := by kernel_rfl
theorem e_ok (a b c d e : Option W) : E19 [a, b, c, d, e, none, none] [] = .rt (.d (.bool true)) [] := by kernel_rfl
theorem loop_ok (a b d e f g : Option W) : ∀ (cs : List Int) (c : Option W), ∃ c', forL (tName 3) L19 (cs.map .int) [a, b, d, c, e, f, g] [] = .nx [a, b, d, c', e, f, g] []
  | [], c => ⟨c, rfl⟩
  | n :: r, c => by
    obtain ⟨c', h⟩ := loop_ok a b d e f g r (some (.d (.int n)))
    refine ⟨c', ?_⟩
    have one : L19 [a, b, d, some (.d (.int n)), e, f, g] [] = .nx [a, b, d, some (.d (.int n)), e, f, g] [] := by
      have e1 : dNe (.int n) (.int n) = some (.bool false) := by
        have : PyData.eqv (.int n) (.int n) = true := by simp [PyData.eqv]
        unfold dNe
        rw [this]
        rfl
      simp [L19, eLim, eNewX, e1]
    show (match L19 [a, b, d, some (.d (.int n)), e, f, g] [] with
      | .nx ρ2 μ2 => forL (tName 3) L19 (r.map .int) ρ2 μ2
      | .ct ρ2 μ2 => forL (tName 3) L19 (r.map .int) ρ2 μ2
      | .bk ρ2 μ2 => .nx ρ2 μ2
      | .rt w μ2 => .rt w μ2
      | .er x μ2 => .er x μ2
      | .no => .no) = _
    rw [one]
    exact h
def T19 : EF := eChain dLt dLt (eOp dSub (eInt 0) (eOp dPow (eInt 10) (eInt 40))) (eVar 4) (eOp dPow (eInt 10) (eInt 40))
theorem t_ok (a b c d f g : Option W) (n : Int) : T19 [a, b, c, d, some (.d (.int n)), f, g] [] = .ok (.d (.bool (decide (-10000000000000000000000000000000000000000 < n ∧ n < 10000000000000000000000000000000000000000)))) [] := by
  have p : dPow (.int 10) (.int 40) = some (.int 10000000000000000000000000000000000000000) := by kernel_rfl
  have z : (0 : Int) - 10000000000000000000000000000000000000000 = -10000000000000000000000000000000000000000 := by decide +kernel
  by_cases h1 : (-10000000000000000000000000000000000000000 : Int) < n
  · by_cases h2 : n < (10000000000000000000000000000000000000000 : Int)
    · simp [T19, p, z, h1, h2]
    · simp [T19, p, z, h1, h2]
  · simp [T19, p, z, h1]
theorem comp_ok (a b c d f g : Option W) : ∀ (ns : List Int) (acc : List PyData), ∃ cs : List Int, cs.length ≤ ns.length ∧ lcL (tName 4) T19 (eVar 4) [a, b, c, d, none, f, g] (ns.map .int) acc [] = .ok (.d (.list (acc ++ cs.map .int))) []
  | [], acc => ⟨[], Nat.le_refl _, by simp [lcL]⟩
  | n :: r, acc => by
    have st : lcL (tName 4) T19 (eVar 4) [a, b, c, d, none, f, g] ((n :: r).map .int) acc [] = (match T19 [a, b, c, d, some (.d (.int n)), f, g] [] with
      | .ok (.d (.bool true)) μ1 => (match eVar 4 [a, b, c, d, some (.d (.int n)), f, g] μ1 with
        | .ok (.d y) μ2 => lcL (tName 4) T19 (eVar 4) [a, b, c, d, none, f, g] (r.map .int) (acc ++ [y]) μ2
        | _ => .no)
      | .ok (.d (.bool false)) μ1 => lcL (tName 4) T19 (eVar 4) [a, b, c, d, none, f, g] (r.map .int) acc μ1
      | _ => .no) := rfl
    rw [st, t_ok]
    by_cases h : (-10000000000000000000000000000000000000000 < n ∧ n < 10000000000000000000000000000000000000000)
    · obtain ⟨cs, hl, e⟩ := comp_ok a b c d f g r (acc ++ [.int n])
      rw [decide_eq_true h]
      refine ⟨n :: cs, by simp; omega, ?_⟩
      show lcL (tName 4) T19 (eVar 4) [a, b, c, d, none, f, g] (r.map .int) (acc ++ [.int n]) [] = _
      rw [e]
      simp
    · obtain ⟨cs, hl, e⟩ := comp_ok a b c d f g r acc
      rw [decide_eq_false h]
      exact ⟨cs, by simp; omega, e⟩
theorem i_ok (b c d : Option W) (ns : List Int) (hl : ns.length ≤ 63) : ∃ cs : List Int, I19 [some (.d (.list (ns.map .int))), b, c, d, none, none, none] [] = .ok (.d (.list (cs.map .int))) [] := by
  obtain ⟨cs, h1, h2⟩ := comp_ok (some (.d (.list (ns.map .int)))) b c d none none ns []
  refine ⟨40 :: cs, ?_⟩
  have hs : dAdd (.list [.int 40]) (.list (cs.map .int)) = some (.list (.int 40 :: cs.map .int)) := dAdd_short _ _ (by
    rw [List.length_map]
    show 1 + cs.length ≤ 1000000
    omega)
  have e1 : eLst (aCons (eInt 40) aNil) [some (.d (.list (ns.map .int))), b, c, d, none, none, none] [] = .ok (.d (.list [.int 40])) [] := rfl
  have e2 : eLc [4] (tName 4) (iSeq (eVar 0)) T19 (eVar 4) [some (.d (.list (ns.map .int))), b, c, d, none, none, none] [] = lcL (tName 4) T19 (eVar 4) [some (.d (.list (ns.map .int))), b, c, d, none, none, none] (ns.map .int) [] [] := rfl
  show eOp dAdd (eLst (aCons (eInt 40) aNil)) (eLc [4] (tName 4) (iSeq (eVar 0)) T19 (eVar 4)) _ _ = _
  rw [x_eOp, e1, R.bind_ok, e2, h2, R.bind_ok, List.nil_append, view_d, view_d, Option.bind_some, Option.bind_some, hs]
  rfl
theorem law_true (ns : List Int) (hl : ns.length ≤ 63) (hb : ∀ z ∈ ns, Builtin.Int.intBits z ≤ 1048576) : g_law [.d (.list (ns.map .int))] [] = .ok (.d (.bool true)) [] := by
  have go : F_law [some (.d (.list (ns.map .int))), none, none, none, none, none, none] [] = .rt (.d (.bool true)) [] := by
    obtain ⟨cs, hi⟩ := i_ok (some (.es es16)) (some (.d (.int 15))) none ns hl
    obtain ⟨c', hf⟩ := loop_ok (some (.d (.list (ns.map .int)))) (some (.es es16)) (some (.d (.int 15))) none none none cs none
    have hF : sFor (tName 3) (iSeq I19) L19 [some (.d (.list (ns.map .int))), some (.es es16), some (.d (.int 15)), none, none, none, none] [] = .nx [some (.d (.list (ns.map .int))), some (.es es16), some (.d (.int 15)), c', none, none, none] [] := by
      rw [x_sFor, x_iSeq, hi]
      exact hf
    rw [F_eq, x_sSeq, a_ok]
    dsimp only
    rw [x_sSeq, b_ok]
    dsimp only
    rw [x_sSeq, c_ok]
    dsimp only
    rw [x_sSeq, hF]
    exact e_ok _ _ _ _ _
  have e0 : g_law [.d (.list (ns.map .int))] [] = fin 0 (F_law (startE 7 [.d (.list (ns.map .int))]) []) := by
    unfold g_law fnOf
    rw [if_pos (show [W.d (PyData.list (ns.map .int))].length = 1 from rfl)]
    rfl
  have e1 : startE 7 [W.d (.list (ns.map .int))] = [some (.d (.list (ns.map .int))), none, none, none, none, none, none] := rfl
  rw [e0, e1, go]
  rfl
end Pure

set_option linter.all false
set_option Elab.async false
set_option maxRecDepth 100000
set_option maxHeartbeats 0
open PySem PySem.W PySem.Calls PyProof.Rows
theorem PySem.Challenge.cw_metagain_k19_classes_of_errors_holds : PySem.Challenge.rw_metagain_k19_classes_of_errors.Holds := by
  w_on; o_law
  refine HandSHeadRun.head_any (r := OpenLaw.row PySem.Challenge.rw_metagain_k19_classes_of_errors) (q := view (OpenLaw.row PySem.Challenge.rw_metagain_k19_classes_of_errors).prog [21]) (H := Hd.hk) (ob := Hd.ob) (M := 9000) (loose := Hd.loose) (d := HandSHeadRun.topDef (OpenLaw.row PySem.Challenge.rw_metagain_k19_classes_of_errors).prog 21) (kwd := []) Hd.ob_eq
    (by kernel_rfl) (fun s => by kernel_rfl) Hd.run (by kernel_rfl) (by kernel_rfl) (by kernel_rfl) (by rfl) (by first | assumption | decide +kernel) (by decide +kernel) ⟨rfl, rfl, rfl, rfl, rfl, by decide +kernel⟩ ?hw ?hc
  case hw => w_witness2
  case hc =>
    refine LamX.walk_ofTsE (l := PySem.Challenge.rw_metagain_k19_classes_of_errors) (n := 63) (k := 3) (x := "script") (CX := fun w => L2N.CX PySem.Challenge.rw_metagain_k19_classes_of_errors.prog w) rfl (by decide) (by kernel_rfl) ⟨rfl, by decide, by decide⟩ ?F (fun w H s e s' z => by
      obtain ⟨_, _, _, _, _, _, _, _, _, _, _, _, z⟩ := z
      exact z)
    intro w mg fa h Y G hmg0
    obtain ⟨K, KX, c⟩ := Y
    have hmg : mg ("law" : PySem.Str) = some (.ref fa) := by
      have e : (HandSHeadRun.topDef (OpenLaw.row PySem.Challenge.rw_metagain_k19_classes_of_errors).prog 21).name = ("law" : PySem.Str) := by kernel_rfl
      rw [← e]
      exact hmg0
    exact ⟨K, KX, Hd.at_law KX G c hmg Pure.law_true⟩
